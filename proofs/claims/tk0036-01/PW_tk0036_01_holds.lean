import PyProof.Rows.All
import Wide.All
import OpenK.AllK
import Wide.FinOn
import Lean
import PySem.Challenge.RW_tk0036_01
section
open PySem PySem.Calls PyProof.Rows
set_option Elab.async false
set_option maxRecDepth 100000
set_option linter.unusedVariables false
namespace Mine

/-! ## values -/
inductive MV where
  | none
  | bool (b : Bool)
  | int (i : Int)
  | list (xs : List MV)
  | tup (xs : List MV)
  | box

abbrev Fz := Addr → Option Obj
structure Wd where
  G : Fz
  lb : Option Addr

mutual
inductive RV (W : Wd) : Value → MV → Prop
  | none : RV W .none .none
  | bool (b) : RV W (.bool b) (.bool b)
  | int (i t) : RV W (.int i t) (.int i)
  | list {a o vs n xs} : W.G a = some o → o.cls = .type "list" → o.data = .seq vs n → RVs W vs.toList xs → RV W (.ref a) (.list xs)
  | tup {a o vs n xs} : W.G a = some o → o.cls = .type "tuple" → o.data = .seq vs n → RVs W vs.toList xs → RV W (.ref a) (.tup xs)
  | box {a} : W.lb = some a → RV W (.ref a) .box
inductive RVs (W : Wd) : List Value → List MV → Prop
  | nil : RVs W [] []
  | cons {v vs x xs} : RV W v x → RVs W vs xs → RVs W (v :: vs) (x :: xs)
end

mutual
theorem RV.mono {W W' : Wd} (le : ∀ b o, W.G b = some o → W'.G b = some o) (hl : W'.lb = W.lb) : ∀ {v x}, RV W v x → RV W' v x
  | _, _, .none => .none
  | _, _, .bool b => .bool b
  | _, _, .int i t => .int i t
  | _, _, .list h1 h2 h3 h4 => .list (le _ _ h1) h2 h3 (RVs.mono le hl h4)
  | _, _, .tup h1 h2 h3 h4 => .tup (le _ _ h1) h2 h3 (RVs.mono le hl h4)
  | _, _, .box h => .box (hl.trans h)
theorem RVs.mono {W W' : Wd} (le : ∀ b o, W.G b = some o → W'.G b = some o) (hl : W'.lb = W.lb) : ∀ {vs xs}, RVs W vs xs → RVs W' vs xs
  | _, _, .nil => .nil
  | _, _, .cons h1 h2 => .cons (RV.mono le hl h1) (RVs.mono le hl h2)
end

section
variable {W : Wd}
theorem RVs.length : ∀ {vs xs}, RVs W vs xs → vs.length = xs.length
  | _, _, .nil => rfl
  | _, _, .cons _ h => congrArg (· + 1) h.length
theorem RVs.get : ∀ {vs : List Value} {xs : List MV}, RVs W vs xs → ∀ {i : Nat} {x : MV}, xs[i]? = some x → ∃ v, vs[i]? = some v ∧ RV W v x
  | _, _, .nil, i, x, e => by simp at e
  | _, _, .cons h r, 0, x, e => by simp at e; subst e; exact ⟨_, rfl, h⟩
  | _, _, .cons h r, i + 1, x, e => by
    have := r.get (i := i) (x := x) (by simpa using e)
    simpa using this
theorem RVs.get' : ∀ {vs : List Value} {xs : List MV}, RVs W vs xs → ∀ {i : Nat} {v : Value}, vs[i]? = some v → ∃ x, xs[i]? = some x ∧ RV W v x
  | _, _, .nil, i, x, e => by simp at e
  | _, _, .cons h r, 0, x, e => by simp at e; subst e; exact ⟨_, rfl, h⟩
  | _, _, .cons h r, i + 1, x, e => by
    have := r.get' (i := i) (v := x) (by simpa using e)
    simpa using this
theorem RVs.append : ∀ {vs xs ws ys}, RVs W vs xs → RVs W ws ys → RVs W (vs ++ ws) (xs ++ ys)
  | _, _, _, _, .nil, h => h
  | _, _, _, _, .cons h r, k => .cons h (r.append k)
theorem RVs.reverse : ∀ {vs xs}, RVs W vs xs → RVs W vs.reverse xs.reverse
  | _, _, .nil => .nil
  | _, _, .cons h r => by
    rw [List.reverse_cons, List.reverse_cons]; exact r.reverse.append (.cons h .nil)
theorem RVs.take : ∀ {vs xs}, RVs W vs xs → ∀ n, RVs W (vs.take n) (xs.take n)
  | _, _, _, 0 => by simp only [List.take_zero]; exact .nil
  | _, _, .nil, n + 1 => .nil
  | _, _, .cons h r, n + 1 => .cons h (r.take n)
theorem RVs.drop : ∀ {vs xs}, RVs W vs xs → ∀ n, RVs W (vs.drop n) (xs.drop n)
  | _, _, h, 0 => h
  | _, _, .nil, n + 1 => .nil
  | _, _, .cons h r, n + 1 => r.drop n
theorem RVs.set : ∀ {vs xs}, RVs W vs xs → ∀ {v x}, RV W v x → ∀ i, RVs W (vs.set i v) (xs.set i x)
  | _, _, .nil, _, _, _, _ => .nil
  | _, _, .cons _ r, _, _, k, 0 => .cons k r
  | _, _, .cons h r, _, _, k, i + 1 => .cons h (r.set k i)
theorem RVs.replicate {v x} (h : RV W v x) : ∀ n, RVs W (List.replicate n v) (List.replicate n x)
  | 0 => .nil
  | n + 1 => .cons h (RVs.replicate h n)
theorem RVs.ints : ∀ {ns : List Int} {vs}, RVs W vs (ns.map .int) → IntsAre vs ns
  | [], _, h => by cases h; exact .nil
  | n :: r, _, h => by
    cases h with
    | cons h1 h2 =>
      cases h1
      exact .cons _ _ (RVs.ints h2)
theorem RVs.ofInts : ∀ {ns : List Int} {vs}, IntsAre vs ns → RVs W vs (ns.map .int)
  | _, _, .nil => .nil
  | _, _, .cons _ _ h => .cons (.int _ _) (RVs.ofInts h)
end

abbrev Bx := List Int × Int

def BoxOk (hb : Heap) (W : Wd) (h : Heap) (β : Bx) : Prop := ∀ a, W.lb = some a → hb.get? a = none ∧ W.G a = none ∧
  ∃ o n ls t, h.get? a = some o ∧ o.cls = .type "list" ∧ o.data = .seq #[.ref ls, .int β.2 t] n ∧ RV W (.ref ls) (.list (β.1.map .int))

structure Okay (hb : Heap) (W : Wd) (s : Shared) (β : Bx) : Prop where
  base : ∀ b o, hb.get? b = some o → s.heap.get? b = some o
  frz : ∀ b o, W.G b = some o → s.heap.get? b = some o
  box : BoxOk hb W s.heap β

structure Step (hb : Heap) (W : Wd) (s : Shared) (W' : Wd) (s' : Shared) (β' : Bx) : Prop where
  same : ∃ h tk, s' = { s with heap := h, toks := tk }
  ext : ∀ b o, s.heap.get? b = some o → W.lb ≠ some b → s'.heap.get? b = some o
  le : ∀ b o, W.G b = some o → W'.G b = some o
  lb : W'.lb = W.lb
  fresh : ∀ b o, W'.G b = some o → W.G b = some o ∨ s.heap.get? b = none
  frz : ∀ b o, W'.G b = some o → s'.heap.get? b = some o
  box : BoxOk hb W' s'.heap β'

theorem Step.okay {hb : Heap} {W W' : Wd} {s s' : Shared} {β β' : Bx} (k : Okay hb W s β) (x : Step hb W s W' s' β') : Okay hb W' s' β' where
  base := fun b o e => x.ext b o (k.base b o e) fun q => by have := (k.box b q).1; rw [e] at this; cases this
  frz := x.frz
  box := x.box
theorem Step.refl {hb : Heap} {W : Wd} {s : Shared} {β : Bx} (k : Okay hb W s β) : Step hb W s W s β :=
  ⟨⟨s.heap, s.toks, rfl⟩, fun _ _ e _ => e, fun _ _ e => e, rfl, fun _ _ e => .inl e, k.frz, k.box⟩
theorem Step.trans {hb : Heap} {W W' W'' : Wd} {s s' s'' : Shared} {β' β'' : Bx} (x : Step hb W s W' s' β') (y : Step hb W' s' W'' s'' β'') : Step hb W s W'' s'' β'' where
  same := by
    obtain ⟨h, tk, rfl⟩ := x.same
    obtain ⟨h', tk', rfl⟩ := y.same
    exact ⟨h', tk', rfl⟩
  ext := fun b o e q => y.ext b o (x.ext b o e q) (by rw [x.lb]; exact q)
  le := fun b o e => y.le b o (x.le b o e)
  lb := y.lb.trans x.lb
  fresh := fun b o e => by
    rcases y.fresh b o e with h | h
    · exact x.fresh b o h
    · refine .inr ?_
      cases q : s.heap.get? b with
      | none => rfl
      | some o' =>
        by_cases l : W.lb = some b
        · have := (y.box b (by rw [y.lb, x.lb]; exact l)).2.1
          rw [e] at this; cases this
        · have := x.ext b o' q l
          rw [h] at this; cases this
  frz := y.frz
  box := y.box

def Wd.add (W : Wd) (a : Addr) (o : Obj) : Wd := { W with G := fun b => if b = a then some o else W.G b }
theorem Wd.add_self (W : Wd) (a : Addr) (o : Obj) : (W.add a o).G a = some o := by simp [Wd.add]
theorem Wd.add_le {W : Wd} {a : Addr} {o : Obj} (h : W.G a = none) : ∀ b x, W.G b = some x → (W.add a o).G b = some x := fun b x e => by
  have : b ≠ a := by rintro rfl; rw [h] at e; cases e
  simpa [Wd.add, this] using e

section
variable {hb : Heap} {W : Wd} {s : Shared} {β : Bx} {h' : Heap} {tk : Nat}
theorem Okay.gnone (k : Okay hb W s β) {a : Addr} (h : s.heap.get? a = none) : W.G a = none := by
  cases e : W.G a with
  | none => rfl
  | some o => have := k.frz a o e; rw [h] at this; cases this
theorem Okay.bnone (k : Okay hb W s β) {a : Addr} (h : s.heap.get? a = none) : hb.get? a = none := by
  cases e : hb.get? a with
  | none => rfl
  | some o => have := k.base a o e; rw [h] at this; cases this
theorem Okay.lnone (k : Okay hb W s β) {a : Addr} (h : s.heap.get? a = none) : W.lb ≠ some a := fun e => by
  obtain ⟨_, _, o, n, ls, t, q, _⟩ := k.box a e
  rw [h] at q; cases q
/-- the heap has grown, nothing is frozen -/
theorem Step.grow (k : Okay hb W s β) (hk : ∀ b o, s.heap.get? b = some o → h'.get? b = some o) : Step hb W s W { s with heap := h', toks := tk } β where
  same := ⟨_, _, rfl⟩
  ext := fun b o e _ => hk b o e
  le := fun _ _ e => e
  lb := rfl
  fresh := fun _ _ e => .inl e
  frz := fun b o e => hk b o (k.frz b o e)
  box := fun a q => by
    obtain ⟨h1, h2, o, n, ls, t, h3, h4⟩ := k.box a q
    exact ⟨h1, h2, o, n, ls, t, hk a o h3, h4⟩
theorem Step.add (k : Okay hb W s β) {a : Addr} {o : Obj} (hk : ∀ b o, s.heap.get? b = some o → h'.get? b = some o) (hn : s.heap.get? a = none) (ha : h'.get? a = some o) :
    Step hb W s (W.add a o) { s with heap := h', toks := tk } β where
  same := ⟨_, _, rfl⟩
  ext := fun b o e _ => hk b o e
  le := Wd.add_le (k.gnone hn)
  lb := rfl
  fresh := fun b x e => by
    by_cases q : b = a
    · subst q; exact .inr hn
    · exact .inl (by simpa [Wd.add, q] using e)
  frz := fun b x e => by
    by_cases q : b = a
    · subst q; rw [Wd.add_self] at e; cases e; exact ha
    · exact hk b x (k.frz b x (by simpa [Wd.add, q] using e))
  box := fun b q => by
    obtain ⟨h1, h2, o', n, ls, t, h3, h4, h5, h6⟩ := k.box b q
    have : b ≠ a := by rintro rfl; rw [hn] at h3; cases h3
    exact ⟨h1, by simpa [Wd.add, this] using h2, o', n, ls, t, hk b o' h3, h4, h5, h6.mono (Wd.add_le (k.gnone hn)) rfl⟩
end

/-! ## frames -/
structure Ctx where
  env : Env
  sh : Shared
  K : Fz
  G₀ : Fz
  lb : Option Addr

inductive Slot where
  | un
  | val (x : MV)
  | own (p : Bool) (xs : List MV)

structure Sg where
  vs : List (Str × Slot)
  box : Bx

inductive Get : List (Str × Slot) → Str → Slot → Prop
  | here {x sl r} : Get ((x, sl) :: r) x sl
  | there {y s r x sl} : (y == x) = false → Get r x sl → Get ((y, s) :: r) x sl
inductive Put : List (Str × Slot) → Str → Slot → List (Str × Slot) → Prop
  | here {x s r sl} : Put ((x, s) :: r) x sl ((x, sl) :: r)
  | there {y s r x sl r'} : (y == x) = false → Put r x sl r' → Put ((y, s) :: r) x sl ((y, s) :: r')

theorem Put.get {vs x sl vs'} (p : Put vs x sl vs') : ∀ {y t}, Get vs' y t → (y = x ∧ t = sl) ∨ (y ≠ x ∧ Get vs y t) := by
  induction p with
  | here =>
    intro y t g
    cases g with
    | here => exact .inl ⟨rfl, rfl⟩
    | there h g => exact .inr ⟨fun e => by subst e; simp at h, .there h g⟩
  | there h p ih =>
    intro y t g
    cases g with
    | here => exact .inr ⟨fun e => by subst e; simp at h, .here⟩
    | there h' g =>
      rcases ih g with q | ⟨q, g'⟩
      · exact .inl q
      · exact .inr ⟨q, .there h' g'⟩
theorem Put.self {vs x sl vs'} (p : Put vs x sl vs') : Get vs' x sl := by
  induction p with
  | here => exact .here
  | there h p ih => exact .there h ih
theorem Get.inj {vs x a b} (g : Get vs x a) : Get vs x b → a = b := by
  induction g with
  | here => intro g; cases g with
    | here => rfl
    | there h _ => simp at h
  | there h g ih => intro k; cases k with
    | here => simp at h
    | there _ k => exact ih k

def valOf (env : Env) (m cm : Str → Option Value) (x : Str) : Option Value := if env.kindOf x = some .local then m x else cm x

structure Priv (hb : Heap) (C : Ctx) (W : Wd) (a : Addr) : Prop where
  g : W.G a = none
  k : C.K a = none
  b : hb.get? a = none
  l : W.lb ≠ some a

def LsObj (p : Bool) (o : Obj) : Prop := o.cls = .type "list" ∧ (p = true → o.dict = none)
def SlotOk (hb : Heap) (C : Ctx) (W : Wd) (h : Heap) (ov : Option Value) : Slot → Prop
  | .un => True
  | .val x => ∃ v, ov = some v ∧ RV W v x
  | .own p xs => ∃ l o vs n, ov = some (.ref l) ∧ h.get? l = some o ∧ LsObj p o ∧ o.data = .seq vs n ∧ RVs W vs.toList xs ∧ Priv hb C W l ∧ l ≠ C.env.locals ∧ ∀ y c, C.env.cells.lookup y = some c → l ≠ c

structure Frm (hb : Heap) (C : Ctx) (W : Wd) (σ : Sg) (h : Heap) (m cm : Str → Option Value) : Prop where
  ns : h.Ns C.env.locals m
  cell : ∀ y c, C.env.cells.lookup y = some c → h.IsCell c (cm y)
  var : ∀ x sl, Get σ.vs x sl → SlotOk hb C W h (valOf C.env m cm x) sl
  has : ∀ x sl, Get σ.vs x sl → C.env.kindOf x ≠ some .local → ∃ c, C.env.cells.lookup x = some c
  uniq : ∀ x y p q xs ys l, Get σ.vs x (.own p xs) → Get σ.vs y (.own q ys) → valOf C.env m cm x = some (.ref l) → valOf C.env m cm y = some (.ref l) → x = y

structure St (hb : Heap) (C : Ctx) (W : Wd) (σ : Sg) (s : Shared) : Prop where
  ok : Okay hb W s σ.box
  same : ∃ h tk, s = { C.sh with heap := h, toks := tk }
  keep : ∀ b o, C.K b = some o → W.lb ≠ some b → s.heap.get? b = some o
  le : ∀ b o, C.G₀ b = some o → W.G b = some o
  new : ∀ b o, W.G b = some o → C.G₀ b = some o ∨ C.K b = none
  frm : ∃ m cm, Frm hb C W σ s.heap m cm
  privL : Priv hb C W C.env.locals
  privC : ∀ y c, C.env.cells.lookup y = some c → Priv hb C W c ∧ c ≠ C.env.locals
  apart : ∀ y z c, C.env.cells.lookup y = some c → C.env.cells.lookup z = some c → y = z
  lbe : W.lb = C.lb

section
variable {hb : Heap} {C : Ctx} {W W' : Wd} {σ : Sg} {s s' : Shared} {β' : Bx}

theorem Priv.step {a : Addr} {o : Obj} (p : Priv hb C W a) (ha : s.heap.get? a = some o) (x : Step hb W s W' s' β') : Priv hb C W' a where
  g := by
    cases e : W'.G a with
    | none => rfl
    | some o' =>
      rcases x.fresh a o' e with q | q
      · rw [p.g] at q; cases q
      · rw [ha] at q; cases q
  k := p.k
  b := p.b
  l := by rw [x.lb]; exact p.l

theorem St.step (S : St hb C W σ s) (x : Step hb W s W' s' β') : St hb C W' { σ with box := β' } s' := by
  obtain ⟨m, cm, F⟩ := S.frm
  obtain ⟨oL, es, ep, hL, rL⟩ := F.ns
  refine ⟨x.okay S.ok, ?_, ?_, fun b o e => x.le b o (S.le b o e), ?_, ⟨m, cm, ⟨oL, es, ep, x.ext _ _ hL S.privL.l, rL⟩, ?_, ?_, F.has, F.uniq⟩, S.privL.step hL x, ?_, S.apart, x.lb.trans S.lbe⟩
  · obtain ⟨h, tk, e⟩ := S.same
    obtain ⟨h', tk', rfl⟩ := x.same
    exact ⟨h', tk', by rw [e]⟩
  · intro b o e q
    exact x.ext b o (S.keep b o e (by rw [← x.lb]; exact q)) (by rw [← x.lb]; exact q)
  · intro b o e
    rcases x.fresh b o e with q | q
    · exact S.new b o q
    · refine .inr ?_
      cases k : C.K b with
      | none => rfl
      | some o' =>
        by_cases l : W.lb = some b
        · have := (x.box b (by rw [x.lb]; exact l)).2.1
          rw [e] at this; cases this
        · have := S.keep b o' k l
          rw [q] at this; cases this
  · intro y c hc
    obtain ⟨o, ho, hd⟩ := F.cell y c hc
    exact ⟨o, x.ext _ _ ho (S.privC y c hc).1.l, hd⟩
  · intro y sl g
    have q := F.var y sl g
    cases sl with
    | un => trivial
    | val z =>
      obtain ⟨v, e, r⟩ := q
      exact ⟨v, e, r.mono x.le x.lb⟩
    | own p xs =>
      obtain ⟨l, o, vs, n, e, h1, h2, h3, h4, h5, h6, h7⟩ := q
      exact ⟨l, o, vs, n, e, x.ext _ _ h1 h5.l, h2, h3, h4.mono x.le x.lb, h5.step h1 x, h6, h7⟩
  · intro y c hc
    obtain ⟨o, ho, hd⟩ := F.cell y c hc
    exact ⟨(S.privC y c hc).1.step ho x, (S.privC y c hc).2⟩

/-- an address that is not in the heap is private -/
theorem St.priv (S : St hb C W σ s) {a : Addr} (h : s.heap.get? a = none) : Priv hb C W a where
  g := S.ok.gnone h
  b := S.ok.bnone h
  l := S.ok.lnone h
  k := by
    cases e : C.K a with
    | none => rfl
    | some o => have := S.keep a o e (S.ok.lnone h); rw [h] at this; cases this
end
end Mine
end
section
open PySem PySem.Calls PyProof.Rows
set_option Elab.async false
set_option maxRecDepth 100000
set_option linter.unusedVariables false
namespace Mine

section
variable {hb : Heap} {C : Ctx} {W W' : Wd} {σ : Sg} {s s' : Shared} {β β' : Bx} {h' : Heap} {tk : Nat} {m cm : Str → Option Value}

theorem Frm.step (S : St hb C W σ s) (F : Frm hb C W σ s.heap m cm) (x : Step hb W s W' s' β') : Frm hb C W' { σ with box := β' } s'.heap m cm := by
  obtain ⟨oL, es, ep, hL, rL⟩ := F.ns
  refine ⟨⟨oL, es, ep, x.ext _ _ hL S.privL.l, rL⟩, ?_, ?_, F.has, F.uniq⟩
  · intro y c hc
    obtain ⟨o, ho, hd⟩ := F.cell y c hc
    exact ⟨o, x.ext _ _ ho (S.privC y c hc).1.l, hd⟩
  · intro y sl g
    have q := F.var y sl g
    cases sl with
    | un => trivial
    | val z =>
      obtain ⟨v, e, r⟩ := q
      exact ⟨v, e, r.mono x.le x.lb⟩
    | own p xs =>
      obtain ⟨l, o, vs, n, e, h1, h2, h3, h4, h5, h6, h7⟩ := q
      exact ⟨l, o, vs, n, e, x.ext _ _ h1 h5.l, h2, h3, h4.mono x.le x.lb, h5.step h1 x, h6, h7⟩

theorem Okay.but (k : Okay hb W s β) {a : Addr} (p1 : W.G a = none) (p2 : hb.get? a = none) (p3 : W.lb ≠ some a) (hs : Heap.SameBut a s.heap h') : Okay hb W { s with heap := h', toks := tk } β where
  base := fun b o e => (hs.2 b fun q => by rw [q, p2] at e; cases e).trans (k.base b o e)
  frz := fun b o e => (hs.2 b fun q => by rw [q, p1] at e; cases e).trans (k.frz b o e)
  box := fun b q => by
    obtain ⟨h1, h2, o, n, ls, t, h3, h4⟩ := k.box b q
    exact ⟨h1, h2, o, n, ls, t, (hs.2 b fun z => p3 (by rw [← z]; exact q)).trans h3, h4⟩

theorem SlotOk.but {h : Heap} {ov : Option Value} {sl : Slot} {a : Addr} (q : SlotOk hb C W h ov sl) (hs : Heap.SameBut a h h') (hn : ∀ p xs l, sl = .own p xs → ov = some (.ref l) → l ≠ a) : SlotOk hb C W h' ov sl := by
  cases sl with
  | un => trivial
  | val z => exact q
  | own p xs =>
    obtain ⟨l, o, vs, n, e, h1, r⟩ := q
    exact ⟨l, o, vs, n, e, (hs.2 l (hn p xs l rfl e)).trans h1, r⟩

/-- the frame after one private address has changed -/
theorem St.but (S : St hb C W σ s) {a : Addr} (P : Priv hb C W a) (hs : Heap.SameBut a s.heap h') {σ' : Sg} (hσ : σ'.box = σ.box) {m' cm' : Str → Option Value} (F' : Frm hb C W σ' h' m' cm') :
    St hb C W σ' { s with heap := h', toks := tk } := by
  refine ⟨by rw [hσ]; exact S.ok.but P.g P.b P.l hs, ?_, ?_, S.le, S.new, ⟨m', cm', F'⟩, S.privL, S.privC, S.apart, S.lbe⟩
  · obtain ⟨h, t, e⟩ := S.same
    exact ⟨h', tk, by rw [e]⟩
  · intro b o e q
    exact (hs.2 b fun z => by rw [z, P.k] at e; cases e).trans (S.keep b o e q)

theorem wp_store {M : Model} {A : Around} {E : Value → Shared → Prop} {Q : Unit → Shared → Prop} {x : Str} {v : Value} {t : Slot} {vs' : List (Str × Slot)} (hkf : C.env.scope.kind = .function) (S : St hb C W σ s) (F : Frm hb C W σ s.heap m cm)
    (hx : C.env.kindOf x = some .local ∨ C.env.kindOf x = some .cell) (p : Put σ.vs x t vs') (hh : ∃ u, Get σ.vs x u) (ht : SlotOk hb C W s.heap (some v) t)
    (hu : ∀ q ys l, t = .own q ys → v = .ref l → ∀ y p zs, y ≠ x → Get σ.vs y (.own p zs) → valOf C.env m cm y ≠ some (.ref l))
    (hQ : ∀ h' tk, St hb C W { σ with vs := vs' } { s with heap := h', toks := tk } → Q () { s with heap := h', toks := tk }) : wpAny M A (storeName C.env x v) Q E s := by
  obtain ⟨u, hu'⟩ := hh
  rcases hx with hl | hc
  · refine wpAny_storeName_local hl F.ns (fun h' hn hs => hQ h' _ ?_) (by rw [hkf]; rfl)
    have hv : ∀ y, valOf C.env (fun z => if z = x then some v else m z) cm y = if y = x then some v else valOf C.env m cm y := by
      intro y
      by_cases q : y = x
      · subst q; simp [valOf, hl]
      · simp [valOf, q]
    refine S.but S.privL hs (σ' := { σ with vs := vs' }) rfl (m' := fun z => if z = x then some v else m z) (cm' := cm) ⟨hn, ?_, ?_, ?_, ?_⟩
    · intro y c e
      exact (F.cell y c e).sameBut hs (S.privC y c e).2
    · intro y sl g
      rw [hv]
      rcases p.get g with ⟨rfl, rfl⟩ | ⟨q, g'⟩
      · rw [if_pos rfl]
        exact ht.but hs fun q xs l e1 e2 => by subst e1; obtain ⟨l', _, _, _, e, _, _, _, _, _, h6, _⟩ := ht; cases e; cases e2; exact h6
      · rw [if_neg q]
        exact (F.var y sl g').but hs fun q xs l e1 e2 => by subst e1; obtain ⟨l', _, _, _, e, _, _, _, _, _, h6, _⟩ := F.var y _ g'; rw [e] at e2; cases e2; exact h6
    · intro y sl g hn'
      rcases p.get g with ⟨rfl, rfl⟩ | ⟨q, g'⟩
      · exact absurd hl hn'
      · exact F.has y sl g' hn'
    · intro y z p1 p2 ys zs l g1 g2 e1 e2
      rw [hv] at e1 e2
      rcases p.get g1 with ⟨rfl, q1⟩ | ⟨q1, g1'⟩ <;> rcases p.get g2 with ⟨rfl, q2⟩ | ⟨q2, g2'⟩
      · rfl
      · rw [if_pos rfl] at e1; rw [if_neg q2] at e2; cases e1
        exact absurd e2 (hu _ _ _ q1.symm rfl z _ zs q2 g2')
      · rw [if_pos rfl] at e2; rw [if_neg q1] at e1; cases e2
        exact absurd e1 (hu _ _ _ q2.symm rfl y _ ys q1 g1')
      · rw [if_neg q1] at e1; rw [if_neg q2] at e2
        exact F.uniq y z _ _ ys zs l g1' g2' e1 e2
  · have hnl : ¬ C.env.kindOf x = some .local := by rw [hc]; decide
    obtain ⟨c, hcc⟩ := F.has x u hu' hnl
    refine wpAny_storeName_cell hkf hc hcc (F.cell x c hcc) fun h' hcv hs => hQ h' _ ?_
    have hv : ∀ y, valOf C.env m (fun z => if z = x then some v else cm z) y = if y = x then some v else valOf C.env m cm y := by
      intro y
      by_cases q : y = x
      · subst q; simp [valOf, hc]
      · simp [valOf, q]
    have pc := S.privC x c hcc
    refine S.but (tk := s.toks) pc.1 hs (σ' := { σ with vs := vs' }) rfl (m' := m) (cm' := fun z => if z = x then some v else cm z) ⟨F.ns.sameBut hs (Ne.symm pc.2), ?_, ?_, ?_, ?_⟩
    · intro y c' e
      by_cases q : y = x
      · subst q
        rw [hcc] at e; cases e
        rw [if_pos rfl]; exact hcv
      · rw [if_neg q]
        exact (F.cell y c' e).sameBut hs fun z => q (S.apart y x c' e (z ▸ hcc))
    · intro y sl g
      rw [hv]
      rcases p.get g with ⟨rfl, rfl⟩ | ⟨q, g'⟩
      · rw [if_pos rfl]
        exact ht.but hs fun q xs l e1 e2 => by subst e1; obtain ⟨l', _, _, _, e, _, _, _, _, _, _, h7⟩ := ht; cases e; cases e2; exact h7 _ _ hcc
      · rw [if_neg q]
        exact (F.var y sl g').but hs fun q xs l e1 e2 => by subst e1; obtain ⟨l', _, _, _, e, _, _, _, _, _, _, h7⟩ := F.var y _ g'; rw [e] at e2; cases e2; exact h7 _ _ hcc
    · intro y sl g hn'
      rcases p.get g with ⟨rfl, rfl⟩ | ⟨q, g'⟩
      · exact ⟨c, hcc⟩
      · exact F.has y sl g' hn'
    · intro y z p1 p2 ys zs l g1 g2 e1 e2
      rw [hv] at e1 e2
      rcases p.get g1 with ⟨rfl, q1⟩ | ⟨q1, g1'⟩ <;> rcases p.get g2 with ⟨rfl, q2⟩ | ⟨q2, g2'⟩
      · rfl
      · rw [if_pos rfl] at e1; rw [if_neg q2] at e2; cases e1
        exact absurd e2 (hu _ _ _ q1.symm rfl z _ zs q2 g2')
      · rw [if_pos rfl] at e2; rw [if_neg q1] at e1; cases e2
        exact absurd e1 (hu _ _ _ q2.symm rfl y _ ys q1 g1')
      · rw [if_neg q1] at e1; rw [if_neg q2] at e2
        exact F.uniq y z _ _ ys zs l g1' g2' e1 e2

/-- an own list has changed -/
theorem St.upd {x : Str} {l : Addr} {q0 p0 : Bool} {xs xs' : List MV} {items' : Array Value} {vs' : List (Str × Slot)} (S : St hb C W σ s) (F : Frm hb C W σ s.heap m cm) (g : Get σ.vs x (.own q0 xs)) (e : valOf C.env m cm x = some (.ref l))
    (hs : Heap.SameBut l s.heap h') (hl : h'.IsList l items') (hdn : p0 = true → PlainL h' l items') (hr : RVs W items'.toList xs') (p : Put σ.vs x (.own p0 xs') vs') : St hb C W { σ with vs := vs' } { s with heap := h', toks := tk } := by
  obtain ⟨l', o, vs, n, e', h1, h2, h3, h4, h5, h6, h7⟩ := F.var x _ g
  rw [e] at e'; cases e'
  refine S.but (tk := tk) h5 hs (σ' := { σ with vs := vs' }) rfl (m' := m) (cm' := cm) ⟨F.ns.sameBut hs (Ne.symm h6), ?_, ?_, ?_, ?_⟩
  · intro y c q
    exact (F.cell y c q).sameBut hs fun z => h7 y c q z.symm
  · intro y sl g'
    rcases p.get g' with ⟨rfl, rfl⟩ | ⟨q, g''⟩
    · obtain ⟨o', ho', hc', n', hd'⟩ := hl
      exact ⟨l, o', items', n', e, ho', ⟨hc', fun z => by obtain ⟨o2, n2, k1, _, k3, _⟩ := hdn z; rw [ho'] at k1; cases k1; exact k3⟩, hd', hr, h5, h6, h7⟩
    · exact (F.var y sl g'').but hs fun p1 ys l' q1 q2 => by
        subst q1
        intro z
        subst z
        exact q (F.uniq y x _ _ ys xs l' g'' g q2 e)
  · intro y sl g' hn'
    rcases p.get g' with ⟨rfl, rfl⟩ | ⟨q, g''⟩
    · exact F.has y _ g hn'
    · exact F.has y sl g'' hn'
  · intro y z p1 p2 ys zs l' g1 g2 e1 e2
    rcases p.get g1 with ⟨rfl, q1⟩ | ⟨q1, g1'⟩ <;> rcases p.get g2 with ⟨rfl, q2⟩ | ⟨q2, g2'⟩
    · rfl
    · exact F.uniq y z _ _ xs zs l' g g2' e1 e2
    · exact F.uniq y z _ _ ys xs l' g1' g e1 e2
    · exact F.uniq y z _ _ ys zs l' g1' g2' e1 e2

/-- an own list becomes a value -/
theorem St.freeze {x : Str} {q0 : Bool} {xs : List MV} {vs' : List (Str × Slot)} (S : St hb C W σ s) (g : Get σ.vs x (.own q0 xs)) (p : Put σ.vs x (.val (.list xs)) vs') : ∃ W', St hb C W' { σ with vs := vs' } s := by
  obtain ⟨m, cm, F⟩ := S.frm
  obtain ⟨l, o, vs, n, e, h1, h2, h3, h4, h5, h6, h7⟩ := F.var x _ g
  have le := Wd.add_le (o := o) h5.g
  have pr : ∀ {a}, Priv hb C W a → a ≠ l → Priv hb C (W.add l o) a := fun {a} P hn => ⟨by simp [Wd.add, hn, P.g], P.k, P.b, P.l⟩
  refine ⟨W.add l o, ⟨S.ok.base, ?_, ?_⟩, S.same, S.keep, fun b o e => le b o (S.le b o e), ?_, ⟨m, cm, ⟨F.ns, F.cell, ?_, ?_, ?_⟩⟩, pr S.privL (Ne.symm h6), fun y c q => ⟨pr (S.privC y c q).1 (Ne.symm (h7 y c q)), (S.privC y c q).2⟩, S.apart, S.lbe⟩
  · intro b x e'
    by_cases q : b = l
    · subst q; rw [Wd.add_self] at e'; cases e'; exact h1
    · exact S.ok.frz b x (by simpa [Wd.add, q] using e')
  · intro b q
    obtain ⟨k1, k2, o', n', ls, t, k3, k4, k5, k6⟩ := S.ok.box b q
    have : b ≠ l := by rintro rfl; exact h5.l q
    exact ⟨k1, by simpa [Wd.add, this] using k2, o', n', ls, t, k3, k4, k5, k6.mono le rfl⟩
  · intro b x e'
    by_cases q : b = l
    · subst q; exact .inr h5.k
    · exact S.new b x (by simpa [Wd.add, q] using e')
  · intro y sl g'
    rcases p.get g' with ⟨rfl, rfl⟩ | ⟨q, g''⟩
    · exact ⟨_, e, .list (Wd.add_self ..) h2.1 h3 (h4.mono le rfl)⟩
    · have k := F.var y sl g''
      cases sl with
      | un => trivial
      | val z => obtain ⟨v, k1, k2⟩ := k; exact ⟨v, k1, k2.mono le rfl⟩
      | own p2 ys =>
        obtain ⟨l', o', vs', n', e', k1, k2, k3, k4, k5, k6, k7⟩ := k
        exact ⟨l', o', vs', n', e', k1, k2, k3, k4.mono le rfl, pr k5 fun z => q (F.uniq y x _ _ ys xs l g'' g (z ▸ e') e), k6, k7⟩
  · intro y sl g' hn'
    rcases p.get g' with ⟨rfl, rfl⟩ | ⟨q, g''⟩
    · exact F.has y _ g hn'
    · exact F.has y sl g'' hn'
  · intro y z p1 p2 ys zs l' g1 g2 e1 e2
    rcases p.get g1 with ⟨rfl, q1⟩ | ⟨q1, g1'⟩
    · cases q1
    · rcases p.get g2 with ⟨rfl, q2⟩ | ⟨q2, g2'⟩
      · cases q2
      · exact F.uniq y z _ _ ys zs l' g1' g2' e1 e2
end

/-! ## judgements -/
structure Room (d : Nat) (A : Around) : Prop where
  handled : A.handled = none
  depth : A.depth + d < recursionLimit
  units : A.units + 8 * d + 100 < cLine

structure CtxOk (sc : Scope) (C : Ctx) : Prop where
  scope : C.env.scope = sc
  kind : sc.kind = .function
  globals : C.env.globals = mainGlobals
  builtins : C.env.builtins = builtinsNs

inductive Out
  | nxt (σ : Sg)
  | ret (x : MV) (β : Bx)

def Leads (hb : Heap) (C : Ctx) (W : Wd) (o : Out) (f : Flow) (s : Shared) : Prop := match o with
  | .nxt σ => f = .next ∧ St hb C W σ s
  | .ret x β => ∃ v σ, f = .ret v ∧ RV W v x ∧ St hb C W σ s ∧ σ.box = β

section
variable (prog : Program) (w : World) (hb : Heap)
/-- the expression gives the value x; the box's content is then β -/
def Ev (sc : Scope) (d : Nat) (σ : Sg) (e : Expr) (x : MV) (β : Bx) : Prop :=
  ∀ (A : Around) (C : Ctx) (W : Wd) (s : Shared) (Q : Value → Shared → Prop), Room d A → CtxOk sc C → St hb C W σ s →
    (∀ W' s' v, Step hb W s W' s' β → RV W' v x → Q v s') → wpAny (model prog w) A (eval e C.env) Q (fun _ _ => False) s
/-- the same of a list of expressions that are spliced -/
def Evs (sc : Scope) (d : Nat) (σ : Sg) (es : List Expr) (xs : List MV) (β : Bx) : Prop :=
  ∀ (A : Around) (C : Ctx) (W : Wd) (s : Shared) (pos : Pos) (Q : List Value → Shared → Prop), Room d A → CtxOk sc C → St hb C W σ s →
    (∀ W' s' vs, Step hb W s W' s' β → RVs W' vs xs → Q vs s') → wpAny (model prog w) A (spliced (backTo pos (starEach es C.env))) Q (fun _ _ => False) s
/-- the expression makes a new list that nothing else bears -/
def EvL (sc : Scope) (d : Nat) (σ : Sg) (e : Expr) (xs : List MV) (β : Bx) : Prop :=
  ∀ (A : Around) (C : Ctx) (W : Wd) (s : Shared) (Q : Value → Shared → Prop), Room d A → CtxOk sc C → St hb C W σ s →
    (∀ W' s' l o vs n, Step hb W s W' s' β → s.heap.get? l = none → s'.heap.get? l = some o → LsObj true o → o.data = .seq vs n → RVs W' vs.toList xs → W'.G l = none → Q (.ref l) s') →
    wpAny (model prog w) A (eval e C.env) Q (fun _ _ => False) s
def IsT (sc : Scope) (d : Nat) (σ : Sg) (e : Expr) (b : Bool) (β : Bx) : Prop :=
  ∀ (A : Around) (C : Ctx) (W : Wd) (s : Shared) (Q : Bool → Shared → Prop), Room d A → CtxOk sc C → St hb C W σ s →
    (∀ W' s', Step hb W s W' s' β → Q b s') → wpAny (model prog w) A (isTrue e C.env (eval e C.env)) Q (fun _ _ => False) s
def Ex1 (sc : Scope) (d : Nat) (σ : Sg) (st : Stmt) (o : Out) : Prop :=
  ∀ (A : Around) (C : Ctx) (W : Wd) (s : Shared) (Q : Flow → Shared → Prop), Room d A → CtxOk sc C → St hb C W σ s →
    (∀ W' s' f, Leads hb C W' o f s' → Q f s') → wpAny (model prog w) A (exec st C.env) Q (fun _ _ => False) s
def Ex (sc : Scope) (d : Nat) (σ : Sg) (ss : List Stmt) (o : Out) : Prop :=
  ∀ (A : Around) (C : Ctx) (W : Wd) (s : Shared) (Q : Flow → Shared → Prop), Room d A → CtxOk sc C → St hb C W σ s →
    (∀ W' s' f, Leads hb C W' o f s' → Q f s') → wpAny (model prog w) A (execs ss C.env) Q (fun _ _ => False) s
/-- a call of fv -/
def FnC (d : Nat) (fv : Value) (xs : List MV) (β : Bx) (x : MV) (β' : Bx) : Prop :=
  ∀ (A : Around) (W : Wd) (s : Shared) (vs : List Value) (Q : Value → Shared → Prop), Room d A → Okay hb W s β → RVs W vs xs →
    (∀ W' s' v, Step hb W s W' s' β' → RV W' v x → Q v s') → wpAny (model prog w) A (call fv vs) Q (fun _ _ => False) s
end

section
variable {prog : Program} {w : World} {hb : Heap} {sc : Scope} {d : Nat} {σ σ' : Sg} {β β' β'' : Bx}

theorem Room.mono {d d' : Nat} {A : Around} (R : Room d A) (h : d' ≤ d) : Room d' A := ⟨R.handled, by have := R.depth; omega, by have := R.units; omega⟩

/-- σ with another content of the box -/
abbrev Sg.bx (σ : Sg) (β : Bx) : Sg := { σ with box := β }

theorem Ex.nil : Ex prog w hb sc d σ [] (.nxt σ) := fun A C W s Q R K S h => wpAny_execs_nil (h W s _ ⟨rfl, S⟩)
theorem Ex.cons {st : Stmt} {ss : List Stmt} {o : Out} (h1 : Ex1 prog w hb sc d σ st (.nxt σ')) (h2 : Ex prog w hb sc d σ' ss o) : Ex prog w hb sc d σ (st :: ss) o := fun A C W s Q R K S h =>
  wpAny_execs_cons (h1 A C W s _ R K S fun W' s' f l => by
    obtain ⟨rfl, S'⟩ := l
    exact h2 A C W' s' Q R K S' h)
theorem Ex.ret {st : Stmt} {ss : List Stmt} {x : MV} (h1 : Ex1 prog w hb sc d σ st (.ret x β)) : Ex prog w hb sc d σ (st :: ss) (.ret x β) := fun A C W s Q R K S h =>
  wpAny_execs_cons (h1 A C W s _ R K S fun W' s' f l => by
    obtain ⟨v, σ', rfl, r⟩ := l
    exact h W' s' _ ⟨v, σ', rfl, r⟩)
theorem Ex.freeze {x : Str} {q0 : Bool} {xs : List MV} {vs' : List (Str × Slot)} {ss : List Stmt} {o : Out} (g : Get σ.vs x (.own q0 xs)) (p : Put σ.vs x (.val (.list xs)) vs') (h : Ex prog w hb sc d ⟨vs', σ.box⟩ ss o) : Ex prog w hb sc d σ ss o :=
  fun A C W s Q R K S k => by
    obtain ⟨W', S'⟩ := S.freeze g p
    exact h A C W' s Q R K S' k
theorem Ex1.Return {e : Expr} {x : MV} {pos : Pos} (h : Ev prog w hb sc d σ e x β) : Ex1 prog w hb sc d σ (.Return (some e) pos) (.ret x β) := fun A C W s Q R K S k =>
  wpAny_Return_some (h A C W s _ R K S fun W' s' v st r => k W' s' _ ⟨v, _, rfl, r, S.step st, rfl⟩)
theorem Ev.of_list {e : Expr} {xs : List MV} (h : EvL prog w hb sc d σ e xs β) : Ev prog w hb sc d σ e (.list xs) β := fun A C W s Q R K S k =>
  h A C W s _ R K S fun W' s' l o vs n st hn ho hc hd hr hg => by
    have hg' := Wd.add_le (o := o) hg
    refine k (W'.add l o) s' _ ⟨st.same, st.ext, fun b x e => hg' b x (st.le b x e), st.lb, ?_, ?_, ?_⟩ (.list (Wd.add_self ..) hc.1 hd (hr.mono hg' rfl))
    · intro b x e
      by_cases q : b = l
      · subst q; exact .inr hn
      · exact st.fresh b x (by simpa [Wd.add, q] using e)
    · intro b x e
      by_cases q : b = l
      · subst q; rw [Wd.add_self] at e; cases e; exact ho
      · exact st.frz b x (by simpa [Wd.add, q] using e)
    · intro b q
      obtain ⟨k1, k2, o', n', ls, t, k3, k4, k5, k6⟩ := st.box b q
      have : b ≠ l := by
        rintro rfl
        obtain ⟨_, _, o'', _, _, _, k7, _⟩ := S.ok.box b (by rw [← st.lb]; exact q)
        rw [hn] at k7; cases k7
      exact ⟨k1, by simpa [Wd.add, this] using k2, o', n', ls, t, k3, k4, k5, k6.mono hg' rfl⟩
end
end Mine
end
section
open PySem PySem.Calls PyProof.Rows
set_option Elab.async false
set_option maxRecDepth 100000
set_option linter.unusedVariables false
namespace Mine

/-! ## operations on values -/
section
variable (prog : Program) (w : World)
def Cmp (op : CmpOp) (x y : MV) (b : Bool) : Prop := ∀ (A : Around) (hb : Heap) (W : Wd) (s : Shared) (β : Bx) (v1 v2 : Value) (Q : Value → Shared → Prop),
  A.handled = none → A.units + 100 < cLine → Okay hb W s β → RV W v1 x → RV W v2 y → Q (.bool b) s → wpAny (model prog w) A (compareOp op v1 v2) Q (fun _ _ => False) s
def Bin (op : Operator) (x y z : MV) : Prop := ∀ (A : Around) (hb : Heap) (W : Wd) (s : Shared) (β : Bx) (v1 v2 : Value) (Q : Value → Shared → Prop),
  A.handled = none → A.units + 100 < cLine → Okay hb W s β → RV W v1 x → RV W v2 y → (∀ W' s' v, Step hb W s W' s' β → RV W' v z → Q v s') → wpAny (model prog w) A (binaryOp op v1 v2) Q (fun _ _ => False) s
end

def Ir (B : Int) (a : Int) : Prop := -B ≤ a ∧ a ≤ B
theorem mulOk_of {a b : Int} (h : -(2 ^ 62) ≤ a ∧ a ≤ 2 ^ 62) : IntMulOk a b :=
  IntMulOk.of_left (PySem.intBits_le_64 (by have := h.1; omega) (by have := h.2; omega))

section
variable {prog : Program} {w : World} {hb : Heap} {sc : Scope} {d : Nat} {σ σ' : Sg} {β β1 β2 β' β'' : Bx}

theorem Cmp.eq_int (a b : Int) : Cmp prog w .Eq (.int a) (.int b) (a == b) := fun A hb W s β v1 v2 Q _ _ _ r1 r2 k => by
  cases r1; cases r2; exact PyProof.Rows.eq_int k
theorem Cmp.ne_int (a b : Int) : Cmp prog w .NotEq (.int a) (.int b) (a != b) := fun A hb W s β v1 v2 Q _ _ _ r1 r2 k => by
  cases r1; cases r2; exact PyProof.Rows.ne_int k
theorem Cmp.lt_int (a b : Int) : Cmp prog w .Lt (.int a) (.int b) (decide (a < b)) := fun A hb W s β v1 v2 Q _ _ _ r1 r2 k => by
  cases r1; cases r2; exact PyProof.Rows.lt_int k
theorem Cmp.gt_int (a b : Int) : Cmp prog w .Gt (.int a) (.int b) (decide (a > b)) := fun A hb W s β v1 v2 Q _ _ _ r1 r2 k => by
  cases r1; cases r2; exact PySem.P.gt_int k
theorem Cmp.le_int (a b : Int) : Cmp prog w .LtE (.int a) (.int b) (decide (a ≤ b)) := fun A hb W s β v1 v2 Q _ _ _ r1 r2 k => by
  cases r1; cases r2; exact PySem.P.le_int k
theorem Cmp.ge_int (a b : Int) : Cmp prog w .GtE (.int a) (.int b) (decide (a ≥ b)) := fun A hb W s β v1 v2 Q _ _ _ r1 r2 k => by
  cases r1; cases r2; exact PySem.P.ge_int k

theorem RV.isList {W : Wd} {s : Shared} {v : Value} {xs : List MV} (k : Okay hb W s β) (r : RV W v (.list xs)) : ∃ l vs, v = .ref l ∧ s.heap.IsList l vs.toArray ∧ RVs W vs xs := by
  cases r with
  | list h1 h2 h3 h4 => exact ⟨_, _, rfl, ⟨_, k.frz _ _ h1, h2, _, by rw [h3]⟩, h4⟩
theorem RV.isTup {W : Wd} {s : Shared} {v : Value} {xs : List MV} (k : Okay hb W s β) (r : RV W v (.tup xs)) : ∃ l vs, v = .ref l ∧ IsTup s.heap l vs.toArray ∧ RVs W vs xs := by
  cases r with
  | tup h1 h2 h3 h4 => exact ⟨_, _, rfl, ⟨_, k.frz _ _ h1, h2, _, by rw [h3]⟩, h4⟩

theorem Cmp.eq_ints (ns ms : List Int) : Cmp prog w .Eq (.list (ns.map .int)) (.list (ms.map .int)) (decide (ns = ms)) := fun A hb W s β v1 v2 Q _ hu k r1 r2 h => by
  obtain ⟨l1, vs1, rfl, i1, q1⟩ := r1.isList k
  obtain ⟨l2, vs2, rfl, i2, q2⟩ := r2.isList k
  exact PySem.W.ke_eq_ints i1 i2 q1.ints q2.ints (by omega) h
theorem Cmp.ne_ints (ns ms : List Int) : Cmp prog w .NotEq (.list (ns.map .int)) (.list (ms.map .int)) (!decide (ns = ms)) := fun A hb W s β v1 v2 Q _ hu k r1 r2 h => by
  obtain ⟨l1, vs1, rfl, i1, q1⟩ := r1.isList k
  obtain ⟨l2, vs2, rfl, i2, q2⟩ := r2.isList k
  exact PySem.W.ke_ne_ints i1 i2 q1.ints q2.ints (by omega) h
theorem Cmp.is_none (x : MV) (hx : x = .none ∨ (∃ xs, x = .tup xs)) : Cmp prog w .Is x .none (match x with | .none => true | _ => false) := fun A hb W s β v1 v2 Q _ hu k r1 r2 h => by
  cases r2
  refine PySem.is_none ?_
  rcases hx with rfl | ⟨xs, rfl⟩
  · cases r1; exact h
  · cases r1; exact h
theorem Cmp.in_ints (a : Int) (ns : List Int) : Cmp prog w .In (.int a) (.tup (ns.map .int)) (ns.any fun y => y == a) := fun A hb W s β v1 v2 Q _ hu k r1 r2 h => by
  cases r1
  obtain ⟨l2, vs2, rfl, i2, q2⟩ := r2.isTup k
  exact in_tuple_ints i2 (by simpa using q2.ints) h

theorem Bin.add (a b : Int) : Bin prog w .Add (.int a) (.int b) (.int (a + b)) := fun A hb W s β v1 v2 Q _ _ k r1 r2 h => by
  cases r1; cases r2; exact PyProof.Rows.add_int (h W _ _ (Step.grow (h' := s.heap) k fun _ _ e => e) (.int _ _))
theorem Bin.sub (a b : Int) : Bin prog w .Sub (.int a) (.int b) (.int (a - b)) := fun A hb W s β v1 v2 Q _ _ k r1 r2 h => by
  cases r1; cases r2; exact PyProof.Rows.sub_int (h W _ _ (Step.grow (h' := s.heap) k fun _ _ e => e) (.int _ _))
theorem Bin.mul {a b : Int} (ha : -(2 ^ 62) ≤ a ∧ a ≤ 2 ^ 62) : Bin prog w .Mult (.int a) (.int b) (.int (a * b)) := fun A hb W s β v1 v2 Q _ _ k r1 r2 h => by
  cases r1; cases r2; exact PyProof.Rows.mul_int (h W _ _ (Step.grow (h' := s.heap) k fun _ _ e => e) (.int _ _)) (mulOk_of ha)
theorem Bin.mod {a b : Int} (hb0 : b ≠ 0) : Bin prog w .Mod (.int a) (.int b) (.int (a.fmod b)) := fun A hb W s β v1 v2 Q _ _ k r1 r2 h => by
  cases r1; cases r2; exact PyProof.Rows.mod_int hb0 (h W _ _ (Step.grow (h' := s.heap) k fun _ _ e => e) (.int _ _))
theorem Bin.floordiv {a b : Int} (hb0 : b ≠ 0) (hs : b.natAbs < 1073741824) : Bin prog w .FloorDiv (.int a) (.int b) (.int (a.fdiv b)) := fun A hb W s β v1 v2 Q _ _ k r1 r2 h => by
  cases r1; cases r2; exact PyProof.Rows.floordiv_int hb0 (h W _ _ (Step.grow (h' := s.heap) k fun _ _ e => e) (.int _ _)) (.inl (PyProof.noPylong_small hs))
theorem Bin.pow {a n : Int} (hn : 0 ≤ n) (hn2 : n ≤ 1000000) (ha : a.natAbs < 2 ^ 64) : Bin prog w .Pow (.int a) (.int n) (.int (a ^ n.toNat)) := fun A hb W s β v1 v2 Q _ _ k r1 r2 h => by
  cases r1; cases r2; exact PyProof.Rows.pow_int_small hn hn2 ha (h W _ _ (Step.grow (h' := s.heap) k fun _ _ e => e) (.int _ _))

/-! ## expressions -/
theorem Ev.int {i : Int} {k : Nat} {pos : Pos} : Ev prog w hb sc d σ (.Constant (.int i) k pos) (.int i) σ.box := fun A C W s Q R K S h =>
  wpAny_Constant_int (h W _ _ (Step.grow (h' := s.heap) S.ok fun _ _ e => e) (.int _ _))
theorem Ev.none_ {k : Nat} {pos : Pos} : Ev prog w hb sc d σ (.Constant .none k pos) .none σ.box := fun A C W s Q R K S h =>
  Constant_none (h W _ _ (Step.refl S.ok) .none)
theorem Ev.bool_ {b : Bool} {k : Nat} {pos : Pos} : Ev prog w hb sc d σ (.Constant (.bool b) k pos) (.bool b) σ.box := fun A C W s Q R K S h =>
  Constant_bool (h W _ _ (Step.refl S.ok) (.bool b))

def isVar (sc : Scope) (x : Str) : Bool := !(x == ("__debug__" : Str)) && !(x == ("__classdict__" : Str)) && match sc.names.lookup x with
  | some .local | some .cell | some .free => true
  | _ => false
theorem isVar_or {sc : Scope} {x : Str} (h : isVar sc x = true) : sc.names.lookup x = some .local ∨ sc.names.lookup x = some .cell ∨ sc.names.lookup x = some .free := by
  unfold isVar at h
  simp only [Bool.and_eq_true] at h
  obtain ⟨_, h⟩ := h
  split at h <;> simp_all
theorem isVar_d {sc : Scope} {x : Str} (h : isVar sc x = true) : (x == ("__debug__" : Str)) = false := by
  unfold isVar at h
  simp only [Bool.and_eq_true, Bool.not_eq_true'] at h
  exact h.1.1
theorem isVar_c {sc : Scope} {x : Str} (h : isVar sc x = true) : (x == ("__classdict__" : Str)) = false := by
  unfold isVar at h
  simp only [Bool.and_eq_true, Bool.not_eq_true'] at h
  exact h.1.2

theorem wp_load {A : Around} {C : Ctx} {W : Wd} {s : Shared} {x : Str} {v : Value} {m cm : Str → Option Value} {Q : Value → Shared → Prop} {E : Value → Shared → Prop} {pos : Pos} {sl : Slot} (K : CtxOk sc C) (F : Frm hb C W σ s.heap m cm)
    (hx : isVar sc x = true) (g : Get σ.vs x sl) (e : valOf C.env m cm x = some v) (h : Q v s) : wpAny (model prog w) A (eval (.Name x pos) C.env) Q E s := by
  have hk : C.env.scope.kind = .function := by rw [K.scope, K.kind]
  have hko : C.env.kindOf x = sc.names.lookup x := by unfold Env.kindOf; rw [K.scope]
  rcases isVar_or hx with q | q | q
  · refine wpAny_Name (wpAny_loadName_local hk (hko.trans q) F.ns ?_ h) (isVar_d hx)
    unfold valOf at e; rw [if_pos (hko.trans q)] at e; exact e
  · have hn : ¬ C.env.kindOf x = some .local := by rw [hko, q]; decide
    obtain ⟨c, hc⟩ := F.has x sl g hn
    unfold valOf at e; rw [if_neg hn] at e
    exact wpAny_Name (wpAny_loadName_cell hk (hko.trans q) hc (e ▸ F.cell x c hc) h) (isVar_d hx)
  · have hn : ¬ C.env.kindOf x = some .local := by rw [hko, q]; decide
    obtain ⟨c, hc⟩ := F.has x sl g hn
    unfold valOf at e; rw [if_neg hn] at e
    exact wpAny_Name (wpAny_loadName_free hk (hko.trans q) hc (e ▸ F.cell x c hc) h (isVar_c hx)) (isVar_d hx)

theorem Ev.name {x : Str} {pos : Pos} {y : MV} (hx : isVar sc x = true) (g : Get σ.vs x (.val y)) : Ev prog w hb sc d σ (.Name x pos) y σ.box := fun A C W s Q R K S h => by
  obtain ⟨m, cm, F⟩ := S.frm
  obtain ⟨v, e, r⟩ := F.var x _ g
  exact wp_load K F hx g e (h W s v (Step.refl S.ok) r)

theorem Ev.bin {e1 e2 : Expr} {op : Operator} {pos : Pos} {x y z : MV} (h1 : Ev prog w hb sc d σ e1 x β1) (h2 : Ev prog w hb sc d (σ.bx β1) e2 y β2) (c : Bin prog w op x y z) : Ev prog w hb sc d σ (.BinOp e1 op e2 pos) z β2 :=
  fun A C W s Q R K S h => wpAny_BinOp (h1 A C W s _ R K S fun W1 s1 v1 t1 r1 => h2 A C W1 s1 _ R K (S.step t1) fun W2 s2 v2 t2 r2 =>
    c A hb W2 s2 β2 v1 v2 _ R.handled (by have := R.units; omega) (t2.okay (t1.okay S.ok)) (r1.mono t2.le t2.lb) r2 fun W3 s3 v t3 r => h W3 s3 v ((t1.trans t2).trans t3) r)
theorem Ev.cmp {e1 e2 : Expr} {op : CmpOp} {pos : Pos} {x y : MV} {b : Bool} (h1 : Ev prog w hb sc d σ e1 x β1) (h2 : Ev prog w hb sc d (σ.bx β1) e2 y β2) (c : Cmp prog w op x y b) (hm : behindInMarks op e2 = false) : Ev prog w hb sc d σ (.Compare e1 [op] [e2] pos) (.bool b) β2 :=
  fun A C W s Q R K S h => wpAny_Compare1 (h1 A C W s _ R K S fun W1 s1 v1 t1 r1 => h2 A C W1 s1 _ R K (S.step t1) fun W2 s2 v2 t2 r2 =>
    c A hb W2 s2 β2 v1 v2 _ R.handled (by have := R.units; omega) (t2.okay (t1.okay S.ok)) (r1.mono t2.le t2.lb) r2 (h W2 s2 _ (t1.trans t2) (.bool b))) hm
theorem IsT.cmp {e1 e2 : Expr} {op : CmpOp} {pos : Pos} {x y : MV} {b : Bool} (h1 : Ev prog w hb sc d σ e1 x β1) (h2 : Ev prog w hb sc d (σ.bx β1) e2 y β2) (c : Cmp prog w op x y b) (hm : behindInMarks op e2 = false) : IsT prog w hb sc d σ (.Compare e1 [op] [e2] pos) b β2 :=
  fun A C W s Q R K S h => wpAny_isTrue_Compare1 (h1 A C W s _ R K S fun W1 s1 v1 t1 r1 => h2 A C W1 s1 _ R K (S.step t1) fun W2 s2 v2 t2 r2 =>
    c A hb W2 s2 β2 v1 v2 _ R.handled (by have := R.units; omega) (t2.okay (t1.okay S.ok)) (r1.mono t2.le t2.lb) r2 (wpAny_truthy_bool (h W2 s2 (t1.trans t2)))) hm
theorem Ev.neg {e : Expr} {pos : Pos} {a : Int} (h1 : Ev prog w hb sc d σ e (.int a) β1) : Ev prog w hb sc d σ (.UnaryOp .USub e pos) (.int (-a)) β1 :=
  fun A C W s Q R K S h => UnaryOp_ (h1 A C W s _ R K S fun W1 s1 v1 t1 r1 => by
    cases r1; exact PySem.P.neg_int (h W1 _ _ (t1.trans (Step.grow (h' := s1.heap) (t1.okay S.ok) fun _ _ e => e)) (.int _ _)))

theorem Ev.ite {t b o : Expr} {pos : Pos} {c : Bool} {x : MV} (ht : IsT prog w hb sc d σ t c β1) (h1 : c = true → Ev prog w hb sc d (σ.bx β1) b x β2) (h2 : c = false → Ev prog w hb sc d (σ.bx β1) o x β2) : Ev prog w hb sc d σ (.IfExp t b o pos) x β2 :=
  fun A C W s Q R K S h => IfExp_ (ht A C W s _ R K S fun W1 s1 t1 => by
    cases c with
    | true => exact h1 rfl A C W1 s1 Q R K (S.step t1) fun W2 s2 v t2 r => h W2 s2 v (t1.trans t2) r
    | false => exact h2 rfl A C W1 s1 Q R K (S.step t1) fun W2 s2 v t2 r => h W2 s2 v (t1.trans t2) r)

theorem IsT.not {e : Expr} {pos : Pos} {b : Bool} (h1 : IsT prog w hb sc d σ e b β1) : IsT prog w hb sc d σ (.UnaryOp .Not e pos) (!b) β1 :=
  fun A C W s Q R K S h => isTrue_not (h1 A C W s _ R K S fun W1 s1 t1 => h W1 s1 t1)
theorem IsT.of_bool {e : Expr} {b : Bool} (h1 : Ev prog w hb sc d σ e (.bool b) β1) (he : ∀ env whole, isTrue e env whole = (do let v ← whole; standAt e.pos; holding [v] (truthy v))) : IsT prog w hb sc d σ e b β1 :=
  fun A C W s Q R K S h => isTrue_plain (h1 A C W s _ R K S fun W1 s1 v1 t1 r1 => by cases r1; exact wpAny_truthy_bool (h W1 s1 t1)) (he _ _)

/-- and, or under a test -/
def IsAll (prog : Program) (w : World) (hb : Heap) (sc : Scope) (d : Nat) (σ : Sg) (op : BoolOp) (es : List Expr) (b : Bool) (β : Bx) : Prop :=
  ∀ (A : Around) (C : Ctx) (W : Wd) (s : Shared) (Q : Bool → Shared → Prop), Room d A → CtxOk sc C → St hb C W σ s →
    (∀ W' s', Step hb W s W' s' β → Q b s') → wpAny (model prog w) A (allTrue op es C.env) Q (fun _ _ => False) s
theorem IsT.all {op : BoolOp} {es : List Expr} {pos : Pos} {b : Bool} (h : IsAll prog w hb sc d σ op es b β1) : IsT prog w hb sc d σ (.BoolOp op es pos) b β1 := fun A C W s Q R K S k => h A C W s Q R K S k
theorem IsAll.nil_and : IsAll prog w hb sc d σ .And [] true σ.box := fun A C W s Q R K S k => wpAny_pure (k W s (Step.refl S.ok))
theorem IsAll.nil_or : IsAll prog w hb sc d σ .Or [] false σ.box := fun A C W s Q R K S k => wpAny_pure (k W s (Step.refl S.ok))
theorem IsAll.and {e : Expr} {es : List Expr} {c b : Bool} (h1 : IsT prog w hb sc d σ e c β1) (hf : c = false → b = false ∧ β2 = β1) (ht : c = true → IsAll prog w hb sc d (σ.bx β1) .And es b β2) : IsAll prog w hb sc d σ .And (e :: es) b β2 :=
  fun A C W s Q R K S h => by
    refine isTrue_and (pos := e.pos) (whole := pure .none) (h1 A C W s _ R K S fun W1 s1 t1 => ?_)
    cases c with
    | false => obtain ⟨rfl, rfl⟩ := hf rfl; exact h W1 s1 t1
    | true => exact ht rfl A C W1 s1 Q R K (S.step t1) fun W2 s2 t2 => h W2 s2 (t1.trans t2)
theorem IsAll.or {e : Expr} {es : List Expr} {c b : Bool} (h1 : IsT prog w hb sc d σ e c β1) (ht : c = true → b = true ∧ β2 = β1) (hf : c = false → IsAll prog w hb sc d (σ.bx β1) .Or es b β2) : IsAll prog w hb sc d σ .Or (e :: es) b β2 :=
  fun A C W s Q R K S h => by
    refine isTrue_or (pos := e.pos) (whole := pure .none) (h1 A C W s _ R K S fun W1 s1 t1 => ?_)
    cases c with
    | true => obtain ⟨rfl, rfl⟩ := ht rfl; exact h W1 s1 t1
    | false => exact hf rfl A C W1 s1 Q R K (S.step t1) fun W2 s2 t2 => h W2 s2 (t1.trans t2)

/-- or as a value, of bools -/
theorem Ev.or_one {e : Expr} {pos : Pos} {x : MV} (h : Ev prog w hb sc d σ e x β1) : Ev prog w hb sc d σ (.BoolOp .Or [e] pos) x β1 := fun A C W s Q R K S k => BoolOp_one (h A C W s Q R K S k)
theorem Ev.or {e e2 : Expr} {es : List Expr} {pos : Pos} {c b : Bool} (h1 : Ev prog w hb sc d σ e (.bool c) β1) (ht : c = true → b = true ∧ β2 = β1) (hf : c = false → Ev prog w hb sc d (σ.bx β1) (.BoolOp .Or (e2 :: es) pos) (.bool b) β2) :
    Ev prog w hb sc d σ (.BoolOp .Or (e :: e2 :: es) pos) (.bool b) β2 :=
  fun A C W s Q R K S h => BoolOp_or (h1 A C W s _ R K S fun W1 s1 v1 t1 r1 => by
    cases r1
    refine wpAny_truthy_bool ?_
    cases c with
    | true => obtain ⟨rfl, rfl⟩ := ht rfl; exact h W1 s1 _ t1 (.bool true)
    | false => exact hf rfl A C W1 s1 Q R K (S.step t1) fun W2 s2 v t2 r => h W2 s2 v (t1.trans t2) r)

/-! displays -/
theorem Evs.nil : Evs prog w hb sc d σ [] [] σ.box := fun A C W s pos Q R K S h => Calls.spliced_nil (h W s [] (Step.refl S.ok) .nil)
def notStar : Expr → Bool
  | .Starred .. => false
  | _ => true
theorem starEach_cons {e : Expr} {es : List Expr} {env : Env} (h : notStar e = true) : starEach (e :: es) env = (false, eval e env) :: starEach es env := by
  cases e <;> first | rfl | cases h
theorem Evs.cons {e : Expr} {es : List Expr} {x : MV} {xs : List MV} (h1 : Ev prog w hb sc d σ e x β1) (h2 : Evs prog w hb sc d (σ.bx β1) es xs β2) (hs : notStar e = true) : Evs prog w hb sc d σ (e :: es) (x :: xs) β2 :=
  fun A C W s pos Q R K S h => by
    rw [starEach_cons hs]
    exact Calls.spliced_cons (h1 A C W s _ R K S fun W1 s1 v1 t1 r1 => h2 A C W1 s1 pos _ R K (S.step t1) fun W2 s2 vs t2 r2 => h W2 s2 _ (t1.trans t2) (.cons (r1.mono t2.le t2.lb) r2))
theorem Ev.tup {es : List Expr} {k : Nat} {pos : Pos} {xs : List MV} (h1 : Evs prog w hb sc d σ es xs β1) (hl : xs.length ≤ 16777216) : Ev prog w hb sc d σ (.Tuple es k pos) (.tup xs) β1 :=
  fun A C W s Q R K S h => Tuple_ (h1 A C W s pos _ R K S fun W1 s1 vs t1 r1 => wpAny_newObj_type (by
    have hn : s1.heap.get? s1.heap.objs.size = none := by
      cases e : s1.heap.get? s1.heap.objs.size with
      | none => rfl
      | some o => exact absurd (Heap.lt_size e) (Nat.lt_irrefl _)
    have ok := t1.okay S.ok
    have t2 := Step.add (tk := s1.toks) (h' := s1.heap.push { cls := .type "tuple", data := .seq vs.toArray }) ok (fun b o e => Heap.get?_push_of_some _ e) hn (Heap.get?_push_size _ rfl)
    exact h _ _ _ (t1.trans t2) (.tup (Wd.add_self ..) rfl rfl (by simpa using r1.mono t2.le t2.lb))) (by
      show vs.toArray.size ≤ sizeLine
      rw [List.size_toArray, r1.length]; exact hl))
theorem EvL.list {es : List Expr} {pos : Pos} {xs : List MV} (h1 : Evs prog w hb sc d σ es xs β1) (hl : xs.length ≤ 16777216) : EvL prog w hb sc d σ (.List es pos) xs β1 :=
  fun A C W s Q R K S h => List_ (h1 A C W s pos _ R K S fun W1 s1 vs t1 r1 => wpAny_newObj_type (by
    have hn : s1.heap.get? s1.heap.objs.size = none := by
      cases e : s1.heap.get? s1.heap.objs.size with
      | none => rfl
      | some o => exact absurd (Heap.lt_size e) (Nat.lt_irrefl _)
    have ok := t1.okay S.ok
    have t2 := Step.grow (tk := s1.toks) (h' := s1.heap.push { cls := .type "list", data := .seq vs.toArray }) ok (fun b o e => Heap.get?_push_of_some _ e)
    refine h W1 _ _ _ vs.toArray 0 (t1.trans t2) ?_ (Heap.get?_push_size _ rfl) ⟨rfl, fun _ => rfl⟩ rfl (by simpa using r1) (ok.gnone hn)
    cases e : s.heap.get? s1.heap.objs.size with
    | none => rfl
    | some o =>
      have l := Heap.lt_size e
      by_cases q : W.lb = some s1.heap.objs.size
      · obtain ⟨_, _, o', _, _, _, h3, _⟩ := t1.box _ (by rw [t1.lb]; exact q)
        rw [hn] at h3; cases h3
      · have := t1.ext _ o e q
        rw [hn] at this; cases this) (by
      show vs.toArray.size ≤ sizeLine
      rw [List.size_toArray, r1.length]; exact hl))
end
end Mine
end
section
open PySem PySem.Calls PyProof.Rows
set_option Elab.async false
set_option maxRecDepth 100000
set_option linter.unusedVariables false
namespace Mine

theorem none_size (h : Heap) : h.get? h.objs.size = none := by
  cases e : h.get? h.objs.size with
  | none => rfl
  | some o => exact absurd (Heap.lt_size e) (Nat.lt_irrefl _)

section
variable {hb : Heap} {W W' : Wd} {s s' : Shared} {β β' : Bx}
theorem Step.back (x : Step hb W s W' s' β') {a : Addr} (hn : s'.heap.get? a = none) : s.heap.get? a = none := by
  cases e : s.heap.get? a with
  | none => rfl
  | some o =>
    by_cases q : W.lb = some a
    · obtain ⟨_, _, o', _, _, _, h3, _⟩ := x.box _ (by rw [x.lb]; exact q)
      rw [hn] at h3; cases h3
    · have := x.ext _ o e q
      rw [hn] at this; cases this
theorem Step.gback (k : Okay hb W s β) (x : Step hb W s W' s' β') {a : Addr} (hn : s.heap.get? a = none) (hg : W'.G a = none) : True := trivial
end

def notSlice : Expr → Bool
  | .Slice .. => false
  | _ => true
theorem subscripted_eq {sl : Expr} (h : notSlice sl = true) (o i : Value) : subscripted sl false o i = operate [o, i] (getItem o i) := by
  cases sl <;> first | rfl | cases h

section
variable {prog : Program} {w : World} {hb : Heap} {sc : Scope} {d d' : Nat} {σ σ' : Sg} {β β1 β2 β3 β' β'' : Bx}

theorem Ev.item {value slice : Expr} {pos : Pos} {xs : List MV} {k : Int} {x : MV} (h1 : Ev prog w hb sc d σ value (.list xs) β1) (h2 : Ev prog w hb sc d (σ.bx β1) slice (.int k) β2) (hs : notSlice slice = true)
    (h0 : 0 ≤ k) (hk : k ≤ 2 ^ 62) (hx : xs[k.toNat]? = some x) : Ev prog w hb sc d σ (.Subscript value slice pos) x β2 := fun A C W s Q R K S h =>
  Subscript_ (h1 A C W s _ R K S fun W1 s1 v1 t1 r1 => h2 A C W1 s1 _ R K (S.step t1) fun W2 s2 v2 t2 r2 => by
    cases r2
    obtain ⟨l, vs, rfl, il, q⟩ := (r1.mono t2.le t2.lb).isList (t2.okay (t1.okay S.ok))
    obtain ⟨v, e, r⟩ := q.get hx
    exact tail_any il.typeIs slot_list_getitem.lookup (wpAny_getItem_list il h0 (by omega) (by simpa using e) (h W2 s2 v (t1.trans t2) r)) (subscripted_eq hs _ _))
theorem Ev.item_neg {value slice : Expr} {pos : Pos} {xs : List MV} {k : Int} {x : MV} (h1 : Ev prog w hb sc d σ value (.list xs) β1) (h2 : Ev prog w hb sc d (σ.bx β1) slice (.int k) β2) (hs : notSlice slice = true)
    (h0 : k < 0) (hk : -(xs.length : Int) ≤ k) (hk2 : -(2 ^ 62) ≤ k) (hx : xs[(k + xs.length).toNat]? = some x) : Ev prog w hb sc d σ (.Subscript value slice pos) x β2 := fun A C W s Q R K S h =>
  Subscript_ (h1 A C W s _ R K S fun W1 s1 v1 t1 r1 => h2 A C W1 s1 _ R K (S.step t1) fun W2 s2 v2 t2 r2 => by
    cases r2
    obtain ⟨l, vs, rfl, il, q⟩ := (r1.mono t2.le t2.lb).isList (t2.okay (t1.okay S.ok))
    obtain ⟨v, e, r⟩ := q.get hx
    have hlen := q.length
    exact tail_any il.typeIs slot_list_getitem.lookup (wpAny_getItem_list_neg il h0 (by rw [List.size_toArray, hlen]; exact hk) (by omega) (by rw [List.size_toArray, hlen]; simpa using e) (h W2 s2 v (t1.trans t2) r)) (subscripted_eq hs _ _))
theorem Ev.item_tup {value slice : Expr} {pos : Pos} {xs : List MV} {k : Int} {j : Nat} {x : MV} (h1 : Ev prog w hb sc d σ value (.tup xs) β1) (h2 : Ev prog w hb sc d (σ.bx β1) slice (.int k) β2) (hs : notSlice slice = true)
    (h0 : -(2 ^ 62) ≤ k) (hk : k ≤ 2 ^ 62) (hj : seqIndex? k xs.length = some j) (hx : xs[j]? = some x) : Ev prog w hb sc d σ (.Subscript value slice pos) x β2 := fun A C W s Q R K S h =>
  Subscript_ (h1 A C W s _ R K S fun W1 s1 v1 t1 r1 => h2 A C W1 s1 _ R K (S.step t1) fun W2 s2 v2 t2 r2 => by
    cases r2
    obtain ⟨l, vs, rfl, il, q⟩ := (r1.mono t2.le t2.lb).isTup (t2.okay (t1.okay S.ok))
    obtain ⟨v, e, r⟩ := q.get hx
    exact item_tupleT il (by omega) (by omega) (by rw [q.length]; exact hj) e (h W2 s2 v (t1.trans t2) r) (subscripted_eq hs _ _))
theorem Ev.item_own {x : Str} {q0 : Bool} {slice : Expr} {pos npos : Pos} {xs : List MV} {k : Int} {y : MV} (hx : isVar sc x = true) (g : Get σ.vs x (.own q0 xs)) (h2 : Ev prog w hb sc d σ slice (.int k) β2) (hs : notSlice slice = true)
    (h0 : 0 ≤ k) (hk : k ≤ 2 ^ 62) (hy : xs[k.toNat]? = some y) : Ev prog w hb sc d σ (.Subscript (.Name x npos) slice pos) y β2 := fun A C W s Q R K S h => by
  obtain ⟨m, cm, F⟩ := S.frm
  obtain ⟨l, o, vs, n, e, o1, o2, o3, o4, o5, _⟩ := F.var x _ g
  refine Subscript_ (wp_load K F hx g e (h2 A C W s _ R K S fun W2 s2 v2 t2 r2 => ?_))
  cases r2
  have il : s2.heap.IsList l vs := ⟨o, t2.ext _ _ o1 o5.l, o2.1, n, o3⟩
  obtain ⟨v, e, r⟩ := (o4.mono t2.le t2.lb).get hy
  exact tail_any il.typeIs slot_list_getitem.lookup (wpAny_getItem_list il h0 (by omega) (by simpa using e) (h W2 s2 v t2 r)) (subscripted_eq hs _ _)

/-! slices -/
def EvP (prog : Program) (w : World) (hb : Heap) (sc : Scope) (d : Nat) (σ : Sg) (e : Option Expr) (k : Option Int) (β : Bx) : Prop :=
  ∀ (A : Around) (C : Ctx) (W : Wd) (s : Shared) (Q : Value → Shared → Prop), Room d A → CtxOk sc C → St hb C W σ s →
    (∀ W' s' v, Step hb W s W' s' β → IsPart v k → Q v s') → wpAny (model prog w) A (evalPart e C.env) Q (fun _ _ => False) s
theorem EvP.no : EvP prog w hb sc d σ none none σ.box := fun A C W s Q R K S h => wpAny_pure (h W s .none (Step.refl S.ok) .none)
theorem EvP.yes {e : Expr} {i : Int} (h1 : Ev prog w hb sc d σ e (.int i) β1) : EvP prog w hb sc d σ (some e) (some i) β1 := fun A C W s Q R K S h =>
  h1 A C W s Q R K S fun W' s' v t r => by cases r; exact h W' s' _ t (.int _ _)

def Pick (lo hi st : Option Int) (xs ys : List MV) : Prop := ∀ (W : Wd) (vs : List Value), RVs W vs xs → RVs W (slicePick vs.toArray lo hi st).toList ys
theorem Pick.upto (n : Nat) (xs : List MV) : Pick none (some (n : Int)) none xs (xs.take n) := fun W vs r => by
  rw [slicePick_upto']; simpa using r.take n
theorem Pick.from (n : Nat) (xs : List MV) : Pick (some (n : Int)) none none xs (xs.drop n) := fun W vs r => by
  rw [slicePick_from']; simpa using r.drop n
theorem Pick.rev (xs : List MV) : Pick none none (some (-1)) xs xs.reverse := fun W vs r => by
  rw [PySem.W.krv_pick]; simpa using r.reverse

theorem EvL.slice {value : Expr} {lo hi : Option Expr} {p pos : Pos} {kl kh : Option Int} {xs ys : List MV} (h1 : Ev prog w hb sc d σ value (.list xs) β1) (h2 : EvP prog w hb sc d (σ.bx β1) lo kl β2) (h3 : EvP prog w hb sc d ((σ.bx β1).bx β2) hi kh β3)
    (hp : Pick kl kh none xs ys) (hl : xs.length ≤ 16777216) : EvL prog w hb sc d σ (.Subscript value (.Slice lo hi none p) pos) ys β3 := fun A C W s Q R K S h =>
  Subscript_ (h1 A C W s _ R K S fun W1 s1 v1 t1 r1 => wpAny_Slice (h2 A C W1 s1 _ R K (S.step t1) fun W2 s2 v2 t2 p2 => h3 A C W2 s2 _ R K ((S.step t1).step t2) fun W3 s3 v3 t3 p3 => by
    rw [evalPart_none]
    refine wpAny_pure ?_
    have ok := t3.okay (t2.okay (t1.okay S.ok))
    obtain ⟨l, vs, rfl, il, q⟩ := ((r1.mono t2.le t2.lb).mono t3.le t3.lb).isList ok
    refine tail_any (il.push _).typeIs slot_list_getitem.lookup (wpAny_getItem_list_slice (il.push _) (Heap.IsSliceOf.new ..) p2 p3 .none (by simp) ?_ (by rw [List.size_toArray, q.length]; exact hl)) (ops := [_, _]) rfl
    have hn : s3.heap.get? (s3.heap.push { cls := .type "slice", data := .fields #[v2, v3, .none] }).objs.size = none := by
      cases e : s3.heap.get? (s3.heap.push { cls := .type "slice", data := .fields #[v2, v3, .none] }).objs.size with
      | none => rfl
      | some o => have := Heap.lt_size e; rw [Heap.size_push] at this; exact absurd this (Nat.not_lt.mpr (Nat.le_succ _))
    have t := (t1.trans t2).trans t3
    have t4 := Step.grow (tk := s3.toks) (h' := (s3.heap.push { cls := .type "slice", data := .fields #[v2, v3, .none] }).push { cls := .type "list", data := .seq (slicePick vs.toArray kl kh none) }) ok
      (fun b o e => Heap.get?_push_of_some _ (Heap.get?_push_of_some _ e))
    exact h W3 _ _ _ _ 0 (t.trans t4) (t.back hn) (Heap.get?_push_size _ rfl) ⟨rfl, fun _ => rfl⟩ rfl (hp W3 vs q) (ok.gnone hn)))
theorem EvL.slice_step {value st : Expr} {lo hi : Option Expr} {p pos : Pos} {kl kh : Option Int} {ks : Int} {xs ys : List MV} {β4 : Bx} (h1 : Ev prog w hb sc d σ value (.list xs) β1) (h2 : EvP prog w hb sc d (σ.bx β1) lo kl β2) (h3 : EvP prog w hb sc d ((σ.bx β1).bx β2) hi kh β3)
    (h4 : Ev prog w hb sc d (((σ.bx β1).bx β2).bx β3) st (.int ks) β4) (hk0 : ks ≠ 0) (hp : Pick kl kh (some ks) xs ys) (hl : xs.length ≤ 16777216) : EvL prog w hb sc d σ (.Subscript value (.Slice lo hi (some st) p) pos) ys β4 := fun A C W s Q R K S h =>
  Subscript_ (h1 A C W s _ R K S fun W1 s1 v1 t1 r1 => wpAny_Slice (h2 A C W1 s1 _ R K (S.step t1) fun W2 s2 v2 t2 p2 => h3 A C W2 s2 _ R K ((S.step t1).step t2) fun W3 s3 v3 t3 p3 => by
    rw [evalPart_some]
    refine h4 A C W3 s3 _ R K (((S.step t1).step t2).step t3) fun W4 s4 v4 t4 r4 => ?_
    have ok := t4.okay (t3.okay (t2.okay (t1.okay S.ok)))
    obtain ⟨l, vs, rfl, il, q⟩ := (((r1.mono t2.le t2.lb).mono t3.le t3.lb).mono t4.le t4.lb).isList ok
    cases r4
    refine tail_any (il.push _).typeIs slot_list_getitem.lookup (wpAny_getItem_list_slice (il.push _) (Heap.IsSliceOf.new ..) p2 p3 (.int _ _) (by simpa using hk0) ?_ (by rw [List.size_toArray, q.length]; exact hl)) (ops := [_, _]) rfl
    rename_i tk4
    have hn : s4.heap.get? (s4.heap.push { cls := .type "slice", data := .fields #[v2, v3, .int ks tk4] }).objs.size = none := by
      cases e : s4.heap.get? (s4.heap.push { cls := .type "slice", data := .fields #[v2, v3, .int ks tk4] }).objs.size with
      | none => rfl
      | some o => have := Heap.lt_size e; rw [Heap.size_push] at this; exact absurd this (Nat.not_lt.mpr (Nat.le_succ _))
    have t := ((t1.trans t2).trans t3).trans t4
    have t5 := Step.grow (tk := s4.toks) (h' := (s4.heap.push { cls := .type "slice", data := .fields #[v2, v3, .int ks tk4] }).push { cls := .type "list", data := .seq (slicePick vs.toArray kl kh (some ks)) }) ok
      (fun b o e => Heap.get?_push_of_some _ (Heap.get?_push_of_some _ e))
    exact h W4 _ _ _ _ 0 (t.trans t5) (t.back hn) (Heap.get?_push_size _ rfl) ⟨rfl, fun _ => rfl⟩ rfl (hp W4 vs q) (ok.gnone hn)))

/-! calls -/
def GlobIs (hb : Heap) (x : Str) (v : Value) : Prop := ∃ mg, hb.Ns mainGlobals mg ∧ mg x = some v
def BuiltIs (hb : Heap) (x : Str) (v : Value) : Prop := ∃ mg mb, hb.Ns mainGlobals mg ∧ mg x = none ∧ hb.Ns builtinsNs mb ∧ mb x = some v
def isGlob (sc : Scope) (x : Str) : Bool := !(x == ("__debug__" : Str)) && decide (sc.names.lookup x = some .globalImplicit)

theorem wp_glob {A : Around} {C : Ctx} {W : Wd} {s : Shared} {x : Str} {v : Value} {Q : Value → Shared → Prop} {E : Value → Shared → Prop} {pos : Pos} (K : CtxOk sc C) (k : Okay hb W s β)
    (hx : isGlob sc x = true) (hv : GlobIs hb x v) (h : Q v s) : wpAny (model prog w) A (eval (.Name x pos) C.env) Q E s := by
  unfold isGlob at hx
  simp only [Bool.and_eq_true, Bool.not_eq_true', decide_eq_true_eq] at hx
  obtain ⟨mg, n, e⟩ := hv
  exact Calls.Name_function_global (by rw [K.scope, K.kind]) (by unfold Env.kindOf; rw [K.scope]; exact hx.2) (Calls.loadGlobal_global (by rw [K.globals]; exact n.keeps k.base) e h) hx.1
theorem wp_built {A : Around} {C : Ctx} {W : Wd} {s : Shared} {x : Str} {v : Value} {Q : Value → Shared → Prop} {E : Value → Shared → Prop} {pos : Pos} (K : CtxOk sc C) (k : Okay hb W s β)
    (hx : isGlob sc x = true) (hv : BuiltIs hb x v) (h : Q v s) : wpAny (model prog w) A (eval (.Name x pos) C.env) Q E s := by
  unfold isGlob at hx
  simp only [Bool.and_eq_true, Bool.not_eq_true', decide_eq_true_eq] at hx
  obtain ⟨mg, mb, n, e, n', e'⟩ := hv
  exact Calls.Name_function_global (by rw [K.scope, K.kind]) (by unfold Env.kindOf; rw [K.scope]; exact hx.2) (Calls.loadGlobal_builtin (by rw [K.globals]; exact n.keeps k.base) e (by rw [K.builtins]; exact n'.keeps k.base) e' h) hx.1

theorem noStar {env : Env} {pos : Pos} : ∀ {es : List Expr}, es.all notStar = true → (backTo pos (starEach es env)).any (·.1) = false
  | [], _ => rfl
  | e :: es, h => by
    simp only [List.all_cons, Bool.and_eq_true] at h
    rw [starEach_cons h.1]
    show (false || _) = false
    rw [Bool.false_or]
    exact noStar h.2

theorem Ev.app {f : Str} {p pos : Pos} {e : Expr} {es : List Expr} {a : Addr} {o : Obj} {fd : FuncData} {xs : List MV} {x : MV} (hf : isGlob sc f = true) (hg : GlobIs hb f (.ref a)) (ho : hb.get? a = some o) (hfd : o.data = .func fd)
    (hs : notStar e = true) (h1 : Evs prog w hb sc d σ (e :: es) xs β1) (h2 : FnC prog w hb d' (.ref a) xs β1 x β2) (hd : d' ≤ d) : Ev prog w hb sc d σ (.Call (.Name f p) (e :: es) [] pos) x β2 := fun A C W s Q R K S h => by
  refine wpAny_Call_NameR (wp_glob K S.ok hf hg (Calls.callWith_function (o := o) (fd := fd) ?_))
  have hh := h1 A C W s pos (fun vs s' => (s'.heap.get? a = some o ∧ o.data = .func fd) ∧ wpAny (model prog w) A (call (.ref a) ([] ++ vs) []) Q (fun _ _ => False) s') R K S fun W1 s1 vs t1 r1 =>
    ⟨⟨(t1.okay S.ok).base _ _ ho, hfd⟩, by
      show wpAny _ _ (call (.ref a) vs []) _ _ _
      exact h2 A W1 s1 vs Q (R.mono hd) (t1.okay S.ok) r1 fun W2 s2 v t2 r2 => h W2 s2 v (t1.trans t2) r2⟩
  rw [starEach_cons hs] at hh ⊢
  exact Calls.evalArgs_plain hh
theorem Ev.app_b {f : Str} {p pos : Pos} {e : Expr} {es : List Expr} {id : String} {xs : List MV} {x : MV} (hf : isGlob sc f = true) (hg : BuiltIs hb f (.builtin id))
    (hs : (e :: es).all notStar = true) (h1 : Evs prog w hb sc d σ (e :: es) xs β1) (h2 : FnC prog w hb d' (.builtin id) xs β1 x β2) (hd : d' ≤ d) : Ev prog w hb sc d σ (.Call (.Name f p) (e :: es) [] pos) x β2 := fun A C W s Q R K S h => by
  refine wpAny_Call_NameR (wp_built K S.ok hf hg (Calls.callWith_builtin (noStar hs) ?_))
  have hh := h1 A C W s pos (fun vs s' => wpAny (model prog w) A (call (.builtin id) ([] ++ vs) []) Q (fun _ _ => False) s') R K S fun W1 s1 vs t1 r1 => by
      show wpAny _ _ (call (.builtin id) vs []) _ _ _
      exact h2 A W1 s1 vs Q (R.mono hd) (t1.okay S.ok) r1 fun W2 s2 v t2 r2 => h W2 s2 v (t1.trans t2) r2
  have hs' : notStar e = true := by simp only [List.all_cons, Bool.and_eq_true] at hs; exact hs.1
  rw [starEach_cons hs'] at hh ⊢
  exact Calls.evalArgs_plain hh

theorem FnC.len {xs : List MV} (hl : xs.length ≤ 16777216) : FnC prog w hb 0 (.builtin "len") [.list xs] β (.int xs.length) β := fun A W s vs Q R k r h => by
  cases r with
  | cons r1 r2 =>
    cases r2
    obtain ⟨l, vs, rfl, il, q⟩ := r1.isList k
    refine len_list il (by rw [List.size_toArray, q.length]; omega) ?_
    rw [List.size_toArray, q.length]
    exact h W _ _ (Step.grow (h' := s.heap) k fun _ _ e => e) (.int _ _)
theorem FnC.abs {a : Int} : FnC prog w hb 0 (.builtin "abs") [.int a] β (.int (if a < 0 then -a else a)) β := fun A W s vs Q R k r h => by
  cases r with
  | cons r1 r2 =>
    cases r2; cases r1
    exact call_abs_int fun u tk => h W _ _ (Step.grow (h' := s.heap) k fun _ _ e => e) (.int _ _)
theorem FnC.max {a b : Int} : FnC prog w hb 0 (.builtin "max") [.int a, .int b] β (.int (if b > a then b else a)) β := fun A W s vs Q R k r h => by
  cases r with
  | cons r1 r2 =>
    cases r1
    cases r2 with
    | cons r2 r3 =>
      cases r2; cases r3
      refine max_two_ints R.handled fun h' tk hk => ?_
      have := fun v r => h W _ v (Step.grow (h' := h') (tk := tk) k hk) r
      by_cases c : b > a
      · rw [if_pos c] at this ⊢; exact this _ (.int _ _)
      · rw [if_neg c] at this ⊢; exact this _ (.int _ _)

theorem EvL.list_call {f : Str} {p pos : Pos} {e : Expr} {xs : List MV} (hf : isGlob sc f = true) (hg : BuiltIs hb f (.type "list")) (hs : notStar e = true) (h1 : Ev prog w hb sc d σ e (.list xs) β1) (hl : xs.length ≤ 16777216) :
    EvL prog w hb sc d σ (.Call (.Name f p) [e] [] pos) xs β1 := fun A C W s Q R K S h => by
  refine wpAny_Call_NameR (wp_built K S.ok hf hg ?_)
  rw [starEach_cons hs]
  refine PySem.callWith_type rfl (Calls.evalArgs_plain (Calls.spliced_cons (h1 A C W s _ R K S fun W1 s1 v1 t1 r1 => Calls.spliced_nil ?_)))
  show wpAny _ _ (call (.type "list") [v1] []) _ _ _
  have ok := t1.okay S.ok
  obtain ⟨l, vs, rfl, il, q⟩ := r1.isList ok
  obtain ⟨o, ho, hc, n, hd⟩ := il
  refine call_list_seq l (.inl rfl) ho hc hd (fun h' c' hk hl' => ?_) (by rw [List.size_toArray, q.length]; exact hl)
  exact h W1 _ _ _ _ c' (t1.trans (Step.grow (tk := s1.toks) ok hk)) (t1.back (none_size _)) hl' ⟨rfl, fun _ => rfl⟩ rfl (by simpa using q) (ok.gnone (none_size _))
end
end Mine
end
section
open PySem PySem.Calls PyProof.Rows
set_option Elab.async false
set_option maxRecDepth 100000
set_option linter.unusedVariables false
namespace Mine

def isSto (sc : Scope) (x : Str) : Bool := match sc.names.lookup x with
  | some .local | some .cell => true
  | _ => false
theorem isSto_or {sc : Scope} {x : Str} (h : isSto sc x = true) : sc.names.lookup x = some .local ∨ sc.names.lookup x = some .cell := by
  unfold isSto at h
  split at h <;> simp_all
theorem Put.has {vs x sl vs'} (p : Put vs x sl vs') : ∃ u, Get vs x u := by
  induction p with
  | here => exact ⟨_, .here⟩
  | there h p ih => obtain ⟨u, g⟩ := ih; exact ⟨u, .there h g⟩

section
variable {prog : Program} {w : World} {hb : Heap} {sc : Scope} {d d' : Nat} {σ σ' : Sg} {β β1 β2 β3 β' β'' : Bx}

theorem sto_kind {C : Ctx} {x : Str} (K : CtxOk sc C) (h : isSto sc x = true) : C.env.kindOf x = some .local ∨ C.env.kindOf x = some .cell := by
  unfold Env.kindOf; rw [K.scope]; exact isSto_or h
theorem kindC {C : Ctx} (K : CtxOk sc C) : C.env.scope.kind = .function := by rw [K.scope, K.kind]

/-- a value is stored -/
theorem wp_sto {A : Around} {C : Ctx} {W : Wd} {s : Shared} {x : Str} {v : Value} {y : MV} {vs' : List (Str × Slot)} {Q : Unit → Shared → Prop} {E : Value → Shared → Prop} (K : CtxOk sc C) (S : St hb C W σ s) (hx : isSto sc x = true) (p : Put σ.vs x (.val y) vs') (r : RV W v y)
    (h : ∀ s', St hb C W ⟨vs', σ.box⟩ s' → Q () s') : wpAny (model prog w) A (storeName C.env x v) Q E s := by
  obtain ⟨m, cm, F⟩ := S.frm
  exact wp_store (kindC K) S F (sto_kind K hx) p p.has ⟨v, rfl, r⟩ (fun _ _ _ e => by cases e) fun h' tk S' => h _ S'

theorem Ex1.assign {x : Str} {e : Expr} {p' pos : Pos} {y : MV} {vs' : List (Str × Slot)} (hx : isSto sc x = true) (h1 : Ev prog w hb sc d σ e y β1) (p : Put σ.vs x (.val y) vs') (hs : ∀ env, swapsWith e (some (.Name x p')) pos.line env = pure false) :
    Ex1 prog w hb sc d σ (.Assign [.Name x p'] e pos) (.nxt ⟨vs', β1⟩) := fun A C W s Q R K S k =>
  wpAny_Assign_Name (h1 A C W s _ R K S fun W1 s1 v t r => wp_sto K (S.step t) hx p r fun s' S' => k W1 s' _ ⟨rfl, S'⟩) (hs _)

/-- a new list is stored as the name's own -/
theorem Ex1.assign_own {x : Str} {e : Expr} {p' pos : Pos} {xs : List MV} {vs' : List (Str × Slot)} (hx : isSto sc x = true) (h1 : EvL prog w hb sc d σ e xs β1) (p : Put σ.vs x (.own true xs) vs') (hs : ∀ env, swapsWith e (some (.Name x p')) pos.line env = pure false) :
    Ex1 prog w hb sc d σ (.Assign [.Name x p'] e pos) (.nxt ⟨vs', β1⟩) := fun A C W s Q R K S k =>
  wpAny_Assign_Name (h1 A C W s _ R K S fun W1 s1 l o vs n t hn ho hc hd hr hg => by
    obtain ⟨m, cm, F⟩ := S.frm
    have F1 := F.step S t
    have S1 := S.step t
    have pr : Priv hb C W1 l := ⟨hg, (S.priv hn).k, (S.priv hn).b, by rw [t.lb]; exact (S.priv hn).l⟩
    refine wp_store (kindC K) S1 F1 (sto_kind K hx) p p.has ⟨l, o, vs, n, rfl, ho, hc, hd, hr, pr, ?_, ?_⟩ ?_ fun h' tk S' => k W1 _ _ ⟨rfl, S'⟩
    · rintro rfl
      obtain ⟨_, _, _, q, _⟩ := F.ns
      rw [hn] at q; cases q
    · rintro y c e rfl
      obtain ⟨_, q, _⟩ := F.cell y _ e
      rw [hn] at q; cases q
    · intro q ys l' e1 e2 y p' zs _ g e3
      cases e2
      obtain ⟨l'', _, _, _, q1, q2, _⟩ := F.var y _ g
      rw [e3] at q1; cases q1
      rw [hn] at q2; cases q2) (hs _)

theorem Ex1.if_ {t : Expr} {b o : List Stmt} {pos : Pos} {c : Bool} {out : Out} (ht : IsT prog w hb sc d σ t c β1) (h1 : c = true → Ex prog w hb sc d (σ.bx β1) b out) (h2 : c = false → Ex prog w hb sc d (σ.bx β1) o out) : Ex1 prog w hb sc d σ (.If t b o pos) out :=
  fun A C W s Q R K S k => wpAny_If (ht A C W s _ R K S fun W1 s1 t1 => by
    cases c with
    | true => exact h1 rfl A C W1 s1 Q R K (S.step t1) k
    | false => exact h2 rfl A C W1 s1 Q R K (S.step t1) k)

/-! stores through a tuple -/
inductive Puts : List (Str × Slot) → List (Str × MV) → List (Str × Slot) → Prop
  | nil {vs} : Puts vs [] vs
  | cons {vs x y r vs1 vs'} : Put vs x (.val y) vs1 → Puts vs1 r vs' → Puts vs ((x, y) :: r) vs'

theorem wp_puts {A : Around} {C : Ctx} {W : Wd} {Q : Unit → Shared → Prop} {E : Value → Shared → Prop} (K : CtxOk sc C) : ∀ {r : List (Str × MV)} {vs : List (Str × Slot)} {vs' : List (Str × Slot)} {β : Bx} {vals : List Value} {s : Shared}, Puts vs r vs' → St hb C W ⟨vs, β⟩ s → (r.all fun z => isSto sc z.1) = true → RVs W vals (r.map (·.2)) →
    (∀ s', St hb C W ⟨vs', β⟩ s' → Q () s') → wpAny (model prog w) A (assignInOrder (r.map fun z => bindName C.env z.1) vals) Q E s
  | _, _, _, _, _, _, .nil, S, _, _, h => wpAny_pure (h _ S)
  | (x, y) :: r, _, _, _, _, s, .cons p ps, S, hx, hr, h => by
    simp only [List.all_cons, Bool.and_eq_true] at hx
    cases hr with
    | cons r1 r2 =>
      show wpAny _ _ (do holding _ (bindName C.env x _); assignInOrder (r.map fun z => bindName C.env z.1) _) _ _ _
      exact wpAny_bind (wpAny_holding (wpAny_bindName (wp_sto K S hx.1 p r1 fun s' S' => wp_puts K ps S' hx.2 r2 h)))

theorem Step.pushy {W : Wd} {s : Shared} {h' : Heap} {tk : Nat} (k : Okay hb W s β) (he : Heap.ExtBut s.heap.objs.size s.heap h') : Step hb W s W { s with heap := h', toks := tk } β :=
  Step.grow k fun b o e => he b o (Nat.ne_of_lt (Heap.lt_size e)) e

theorem Ex1.assign_tup {elts : List Expr} {kk : Nat} {tpos pos : Pos} {e : Expr} {names : List Str} {xs : List MV} {vs' : List (Str × Slot)} (h1 : Ev prog w hb sc d σ e (.tup xs) β1)
    (hx : (names.all (isSto sc)) = true) (hl : names.length = xs.length) (p : Puts σ.vs (names.zip xs).reverse vs')
    (hs : ∀ env, swapsWithSole [.Tuple elts kk tpos] e pos.line env = pure false) (hw : ∀ env : Env, env.scope = sc → swappedStores [.Tuple elts kk tpos] e env = pure (some names)) :
    Ex1 prog w hb sc d σ (.Assign [.Tuple elts kk tpos] e pos) (.nxt ⟨vs', β1⟩) := fun A C W s Q R K S k =>
  Assign_Tuple_swapped (names := names) (h1 A C W s _ R K S fun W1 s1 v t r => by
    obtain ⟨l, vals, rfl, il, q⟩ := r.isTup (t.okay S.ok)
    have hsz : names.length = vals.toArray.size := by rw [List.size_toArray, q.length, hl]
    rw [hsz]
    refine unpackItems_tuple R.handled il fun h' he => ?_
    have t2 := Step.pushy (tk := s1.toks) (t.okay S.ok) he
    have S2 := (S.step t).step t2
    have e1 : names.reverse.map (fun n => bindName C.env n) = ((names.zip xs).reverse).map fun z => bindName C.env z.1 := by
      rw [show (fun z : Str × MV => bindName C.env z.1) = (fun n => bindName C.env n) ∘ Prod.fst from rfl, ← List.map_map, List.map_reverse (f := Prod.fst), List.map_fst_zip (by omega)]
    have e2 : ((names.zip xs).reverse).map (·.2) = xs.reverse := by
      rw [List.map_reverse, List.map_snd_zip (by omega)]
    rw [e1]
    refine wp_puts K p S2 ?_ (by rw [e2]; simpa using q.reverse) fun s' S' => k W1 s' _ ⟨rfl, S'⟩
    rw [List.all_reverse]
    rw [show (fun z : Str × MV => isSto sc z.1) = (isSto sc) ∘ Prod.fst from rfl, ← List.all_map, List.map_fst_zip (by omega)]
    exact hx) (hs _) (hw _ K.scope)

/-! targets -/
inductive Itm
  | one (x : MV)
  | two (x y : MV)
def ItmRel (W : Wd) (h : Heap) (v : Value) : Itm → Prop
  | .one x => RV W v x
  | .two x y => ∃ T a b, v = .ref T ∧ IsTup h T #[a, b] ∧ RV W a x ∧ RV W b y

def Asg (prog : Program) (w : World) (hb : Heap) (sc : Scope) (d : Nat) (σ : Sg) (target : Expr) (it : Itm) (σ' : Sg) : Prop :=
  ∀ (A : Around) (C : Ctx) (W : Wd) (s : Shared) (v : Value) (Q : Unit → Shared → Prop), Room d A → CtxOk sc C → St hb C W σ s → ItmRel W s.heap v it →
    (∀ W' s', St hb C W' σ' s' → Q () s') → wpAny (model prog w) A (assign target C.env v) Q (fun _ _ => False) s
theorem Asg.name {x : Str} {pos : Pos} {y : MV} {vs' : List (Str × Slot)} (hx : isSto sc x = true) (p : Put σ.vs x (.val y) vs') : Asg prog w hb sc d σ (.Name x pos) (.one y) ⟨vs', σ.box⟩ := fun A C W s v Q R K S r h =>
  assign_Name (wp_sto K S hx p r fun s' S' => h W s' S')
theorem Asg.pair {x1 x2 : Str} {p1 p2 pos : Pos} {k : Nat} {y1 y2 : MV} {vs1 vs' : List (Str × Slot)} (hx1 : isSto sc x1 = true) (hx2 : isSto sc x2 = true) (q1 : Put σ.vs x1 (.val y1) vs1) (q2 : Put vs1 x2 (.val y2) vs') :
    Asg prog w hb sc d σ (.Tuple [.Name x1 p1, .Name x2 p2] k pos) (.two y1 y2) ⟨vs', σ.box⟩ := fun A C W s v Q R K S r h => by
  obtain ⟨T, a, b, rfl, hT, r1, r2⟩ := r
  rw [assign_Tuple]
  refine wpAny_bind (wpAny_standAt ?_)
  unfold unpack
  refine wpAny_bind (wpAny_holding ?_)
  refine wpAny_mono (Q := fun vals s' => vals = [a, b] ∧ St hb C W σ s') (unpackItems_tuple (items := #[a, b]) R.handled hT fun h' he => ⟨rfl, S.step (Step.pushy (tk := s.toks) S.ok he)⟩) (fun vals s1 hh => ?_) fun _ _ x => x
  obtain ⟨rfl, S1⟩ := hh
  show wpAny _ _ (do holding [a, b].tail (assign (.Name x1 p1) C.env a); (do holding ([] : List Value) (assign (.Name x2 p2) C.env b); pure ())) _ _ _
  exact wpAny_bind (wpAny_holding (assign_Name (wp_sto K S1 hx1 q1 r1 fun s2 S2 => wpAny_bind (wpAny_holding (assign_Name (wp_sto K S2 hx2 q2 r2 fun s3 S3 => wpAny_pure (h W s3 S3)))))))
end
end Mine
end
section
open PySem PySem.Calls PyProof.Rows
set_option Elab.async false
set_option maxRecDepth 100000
set_option linter.unusedVariables false
namespace Mine

/-! ## addresses that a stretch of the walk must leave alone -/
def Ctx.prot (C : Ctx) (fp : List Addr) (h : Heap) (G1 : Fz) : Ctx :=
  { C with K := fun b => if b ∈ fp then h.get? b else C.K b, G₀ := G1 }

section
variable {hb : Heap} {C : Ctx} {W W' : Wd} {σ σ' : Sg} {s s' : Shared} {fp : List Addr} {h : Heap} {G1 : Fz} {m cm : Str → Option Value}

theorem Priv.unprot {a : Addr} (p : Priv hb (C.prot fp h G1) W a) (hd : ∀ b ∈ fp, ∃ o, h.get? b = some o) : a ∉ fp ∧ Priv hb C W a := by
  have hn : a ∉ fp := fun q => by
    obtain ⟨o, ho⟩ := hd a q
    have := p.k
    simp only [Ctx.prot, if_pos q] at this
    rw [ho] at this; cases this
  refine ⟨hn, p.g, ?_, p.b, p.l⟩
  have := p.k
  simpa only [Ctx.prot, if_neg hn] using this
theorem Priv.prot {a : Addr} (p : Priv hb C W a) (hn : a ∉ fp) : Priv hb (C.prot fp h G1) W a :=
  ⟨p.g, by simp only [Ctx.prot, if_neg hn]; exact p.k, p.b, p.l⟩

theorem Frm.prot (F : Frm hb C W σ s.heap m cm) (hown : ∀ y p zs l, Get σ.vs y (.own p zs) → valOf C.env m cm y = some (.ref l) → l ∉ fp) : Frm hb (C.prot fp h G1) W σ s.heap m cm where
  ns := F.ns
  cell := F.cell
  has := F.has
  uniq := F.uniq
  var := fun x sl g => by
    have q := F.var x sl g
    cases sl with
    | un => trivial
    | val z => exact q
    | own p xs =>
      obtain ⟨l, o, vs, n, e, h1, h2, h3, h4, h5, h6, h7⟩ := q
      exact ⟨l, o, vs, n, e, h1, h2, h3, h4, h5.prot (hown x p xs l g e), h6, h7⟩
theorem Frm.unprot (F : Frm hb (C.prot fp h G1) W σ s.heap m cm) (hd : ∀ b ∈ fp, ∃ o, h.get? b = some o) : Frm hb C W σ s.heap m cm ∧ ∀ y p zs l, Get σ.vs y (.own p zs) → valOf C.env m cm y = some (.ref l) → l ∉ fp := by
  refine ⟨⟨F.ns, F.cell, fun x sl g => ?_, F.has, F.uniq⟩, fun y p zs l g e => ?_⟩
  · have q := F.var x sl g
    cases sl with
    | un => trivial
    | val z => exact q
    | own p xs =>
      obtain ⟨l, o, vs, n, e, h1, h2, h3, h4, h5, h6, h7⟩ := q
      exact ⟨l, o, vs, n, e, h1, h2, h3, h4, (h5.unprot hd).2, h6, h7⟩
  · obtain ⟨l', o, vs, n, e', h1, h2, h3, h4, h5, h6, h7⟩ := F.var y _ g
    have : valOf C.env m cm y = some (.ref l') := e'
    rw [e] at this; cases this
    exact (h5.unprot hd).1

theorem St.prot (S : St hb C W σ s) (F : Frm hb C W σ s.heap m cm) (hL : C.env.locals ∉ fp) (hC : ∀ y c, C.env.cells.lookup y = some c → c ∉ fp)
    (hown : ∀ y p zs l, Get σ.vs y (.own p zs) → valOf C.env m cm y = some (.ref l) → l ∉ fp) : St hb (C.prot fp s.heap W.G) W σ s where
  ok := S.ok
  same := S.same
  keep := fun b o e q => by
    by_cases z : b ∈ fp
    · simp only [Ctx.prot, if_pos z] at e; exact e
    · simp only [Ctx.prot, if_neg z] at e; exact S.keep b o e q
  le := fun b o e => e
  new := fun b o e => .inl e
  frm := ⟨m, cm, F.prot hown⟩
  privL := S.privL.prot hL
  privC := fun y c e => ⟨(S.privC y c e).1.prot (hC y c e), (S.privC y c e).2⟩
  apart := S.apart
  lbe := S.lbe

theorem St.unprot (S : St hb (C.prot fp h G1) W σ s) (hd : ∀ b ∈ fp, ∃ o, h.get? b = some o) (hK : ∀ b ∈ fp, ∀ o, C.K b = some o → s.heap.get? b = some o) (hG0 : ∀ b o, C.G₀ b = some o → G1 b = some o)
    (hnew : ∀ b o, G1 b = some o → C.G₀ b = some o ∨ C.K b = none) : St hb C W σ s where
  ok := S.ok
  same := S.same
  keep := fun b o e q => by
    by_cases z : b ∈ fp
    · exact hK b z o e
    · exact S.keep b o (by simp only [Ctx.prot, if_neg z]; exact e) q
  le := fun b o e => S.le b o (hG0 b o e)
  new := fun b o e => by
    rcases S.new b o e with q | q
    · exact hnew b o q
    · by_cases z : b ∈ fp
      · simp only [Ctx.prot, if_pos z] at q
        obtain ⟨o', ho⟩ := hd b z
        rw [ho] at q; cases q
      · right; simpa only [Ctx.prot, if_neg z] using q
  frm := by
    obtain ⟨m, cm, F⟩ := S.frm
    exact ⟨m, cm, (F.unprot hd).1⟩
  privL := (S.privL.unprot hd).2
  privC := fun y c e => ⟨((S.privC y c e).1.unprot hd).2, (S.privC y c e).2⟩
  apart := S.apart
  lbe := S.lbe
theorem St.kept (S : St hb (C.prot fp h G1) W σ s) {b : Addr} {o : Obj} (hb' : b ∈ fp) (ho : h.get? b = some o) (hl : C.lb ≠ some b) : s.heap.get? b = some o :=
  S.keep b o (by simp only [Ctx.prot, if_pos hb']; exact ho) (by rw [S.lbe]; exact hl)

/-- an address out of the heap is none of the frame's -/
theorem Frm.off (F : Frm hb C W σ s.heap m cm) {l : Addr} (hl : s.heap.get? l = none) : l ≠ C.env.locals ∧ (∀ y c, C.env.cells.lookup y = some c → l ≠ c) ∧ ∀ y p zs l', Get σ.vs y (.own p zs) → valOf C.env m cm y = some (.ref l') → l' ≠ l := by
  refine ⟨?_, ?_, ?_⟩
  · rintro rfl
    obtain ⟨_, _, _, q, _⟩ := F.ns
    rw [hl] at q; cases q
  · rintro y c e rfl
    obtain ⟨_, q, _⟩ := F.cell y _ e
    rw [hl] at q; cases q
  · rintro y p zs l' g e rfl
    obtain ⟨l'', _, _, _, q1, q2, _⟩ := F.var y _ g
    rw [e] at q1; cases q1
    rw [hl] at q2; cases q2
end

section
variable {prog : Program} {w : World} {hb : Heap} {sc : Scope} {d d' : Nat} {σ σ' : Sg} {β β1 β2 β3 β' β'' : Bx}

theorem CtxOk.prot {C : Ctx} (K : CtxOk sc C) {fp : List Addr} {h : Heap} {G1 : Fz} : CtxOk sc (C.prot fp h G1) := ⟨K.scope, K.kind, K.globals, K.builtins⟩

/-- three names from a tuple that is no display -/
theorem Ex1.assign_three {x1 x2 x3 : Str} {p1 p2 p3 tpos pos : Pos} {kk : Nat} {e : Expr} {y1 y2 y3 : MV} {vs1 vs2 vs' : List (Str × Slot)} (h1 : Ev prog w hb sc d σ e (.tup [y1, y2, y3]) β1)
    (hx1 : isSto sc x1 = true) (hx2 : isSto sc x2 = true) (hx3 : isSto sc x3 = true) (q1 : Put σ.vs x1 (.val y1) vs1) (q2 : Put vs1 x2 (.val y2) vs2) (q3 : Put vs2 x3 (.val y3) vs')
    (hs : ∀ env, swapsWithSole [.Tuple [.Name x1 p1, .Name x2 p2, .Name x3 p3] kk tpos] e pos.line env = pure false) (hw : ∀ env : Env, env.scope = sc → swappedStores [.Tuple [.Name x1 p1, .Name x2 p2, .Name x3 p3] kk tpos] e env = pure none) :
    Ex1 prog w hb sc d σ (.Assign [.Tuple [.Name x1 p1, .Name x2 p2, .Name x3 p3] kk tpos] e pos) (.nxt ⟨vs', β1⟩) := fun A C W s Q R K S k => by
  refine Assign_Tuple (h1 A C W s _ R K S fun W1 s1 v t r => ?_) (hs _) (hw _ K.scope)
  obtain ⟨l, vals, rfl, il, q⟩ := r.isTup (t.okay S.ok)
  cases q with
  | cons r1 q => cases q with
    | cons r2 q => cases q with
      | cons r3 q =>
        cases q
        rename_i a b c
        rw [assign_Tuple]
        refine wpAny_bind (wpAny_standAt ?_)
        unfold unpack
        refine wpAny_bind (wpAny_holding ?_)
        refine wpAny_mono (Q := fun vals s' => vals = [a, b, c] ∧ St hb C W1 (σ.bx β1) s') (unpackItems_tuple (items := #[a, b, c]) R.handled il fun h' he => ⟨rfl, (S.step t).step (Step.pushy (tk := s1.toks) (t.okay S.ok) he)⟩) (fun vals s1 hh => ?_) fun _ _ x => x
        obtain ⟨rfl, S1⟩ := hh
        show wpAny _ _ (do holding [b, c] (PySem.assign (.Name x1 p1) C.env a); (do holding [c] (PySem.assign (.Name x2 p2) C.env b); (do holding ([] : List Value) (PySem.assign (.Name x3 p3) C.env c); pure ()))) _ _ _
        refine wpAny_bind (wpAny_holding (assign_Name (wp_sto K S1 hx1 q1 r1 fun s2 S2 => ?_)))
        refine wpAny_bind (wpAny_holding (assign_Name (wp_sto K S2 hx2 q2 r2 fun s3 S3 => ?_)))
        exact wpAny_bind (wpAny_holding (assign_Name (wp_sto K S3 hx3 q3 r3 fun s4 S4 => wpAny_pure (k W1 s4 _ ⟨rfl, S4⟩))))

/-- two names, two new lists: «a, b = (list(x), [0] * n)» -/
theorem Ex1.assign_own2 {x1 x2 : Str} {p1 p2 tpos epos pos : Pos} {kk ke : Nat} {e1 e2 : Expr} {xs1 xs2 : List MV} {vs1 vs' : List (Str × Slot)} (h1 : EvL prog w hb sc d σ e1 xs1 β1) (h2 : EvL prog w hb sc d (σ.bx β1) e2 xs2 β2)
    (hx1 : isSto sc x1 = true) (hx2 : isSto sc x2 = true) (q2 : Put σ.vs x2 (.own true xs2) vs1) (q1 : Put vs1 x1 (.own true xs1) vs') (hn1 : notStar e1 = true) (hn2 : notStar e2 = true)
    (hs : ∀ env, swapsWithSole [.Tuple [.Name x1 p1, .Name x2 p2] kk tpos] (.Tuple [e1, e2] ke epos) pos.line env = pure false) (hw : ∀ env : Env, env.scope = sc → swappedStores [.Tuple [.Name x1 p1, .Name x2 p2] kk tpos] (.Tuple [e1, e2] ke epos) env = pure (some [x1, x2])) :
    Ex1 prog w hb sc d σ (.Assign [.Tuple [.Name x1 p1, .Name x2 p2] kk tpos] (.Tuple [e1, e2] ke epos) pos) (.nxt ⟨vs', β2⟩) := fun A C W s Q R K S k => by
  refine Assign_Tuple_swapped (names := [x1, x2]) ?_ (hs _) (hw _ K.scope)
  refine Tuple_ ?_
  rw [starEach_cons hn1, starEach_cons hn2]
  refine Calls.spliced_cons (h1 A C W s _ R K S fun W1 s1 l1 o1 ls1 n1 t1 hf1 ho1 hc1 hd1 hr1 hg1 => Calls.spliced_cons (h2 A C W1 s1 _ R K (S.step t1) fun W2 s2 l2 o2 ls2 n2 t2 hf2 ho2 hc2 hd2 hr2 hg2 => Calls.spliced_nil ?_))
  have S1 := S.step t1
  have S2 := S1.step t2
  obtain ⟨m, cm, F⟩ := S.frm
  have F2 := (F.step S t1).step S1 t2
  have ok2 := t2.okay (t1.okay S.ok)
  have hlb1 : W2.lb ≠ some l1 := by rw [t2.lb, t1.lb]; exact S.ok.lnone hf1
  have ho1' : s2.heap.get? l1 = some o1 := t2.ext _ _ ho1 (by rw [t1.lb]; exact S.ok.lnone hf1)
  have hg1' : W2.G l1 = none := by
    cases e : W2.G l1 with
    | none => rfl
    | some o =>
      rcases t2.fresh l1 o e with q | q
      · rw [hg1] at q; cases q
      · rw [ho1] at q; cases q
  have hf2' := t1.back hf2
  have hlb2 : W2.lb ≠ some l2 := by rw [t2.lb, t1.lb]; exact S.ok.lnone hf2'
  have hne12 : l2 ≠ l1 := by rintro rfl; rw [ho1] at hf2; cases hf2
  refine wpAny_newObj_type ?_ (by show [Value.ref l1, Value.ref l2].toArray.size ≤ sizeLine; simp [sizeLine])
  have tg := Step.grow (tk := s2.toks) (h' := s2.heap.push { cls := .type "tuple", data := .seq [Value.ref l1, Value.ref l2].toArray }) ok2 (fun b o e => Heap.get?_push_of_some _ e)
  refine unpackItems_tuple (items := #[.ref l1, .ref l2]) R.handled ⟨_, Heap.get?_push_size _ rfl, rfl, 0, rfl⟩ fun h3 he3 => ?_
  have tp := Step.pushy (tk := s2.toks) (tg.okay ok2) he3
  have S3 := (S2.step tg).step tp
  have F3 := (F2.step S2 tg).step (S2.step tg) tp
  have g1 : h3.get? l1 = some o1 := tp.ext _ _ (tg.ext _ _ ho1' hlb1) hlb1
  have g2 : h3.get? l2 = some o2 := tp.ext _ _ (tg.ext _ _ ho2 hlb2) hlb2
  have pr1 : Priv hb C W2 l1 := ⟨hg1', (S.priv hf1).k, (S.priv hf1).b, hlb1⟩
  have pr2 : Priv hb C W2 l2 := ⟨hg2, (S.priv hf2').k, (S.priv hf2').b, hlb2⟩
  obtain ⟨a1, a2, a3⟩ := F.off hf1
  obtain ⟨b1, b2, b3⟩ := F.off hf2'
  show wpAny _ _ (do holding [Value.ref l1] (bindName C.env x2 (.ref l2)); (do holding ([] : List Value) (bindName C.env x1 (.ref l1)); pure ())) _ _ _
  refine wpAny_bind (wpAny_holding (wpAny_bindName ?_))
  have hd : ∀ b ∈ [l1], ∃ o, h3.get? b = some o := fun b q => by cases List.mem_singleton.mp q; exact ⟨o1, g1⟩
  have S3p := S3.prot (fp := [l1]) F3 (fun q => a1 (List.mem_singleton.mp q).symm) (fun y c e q => a2 y c e (List.mem_singleton.mp q).symm) (fun y p zs l g e q => a3 y p zs l g e (List.mem_singleton.mp q))
  have F3p := F3.prot (h := h3) (G1 := W2.G) (fp := [l1]) (fun y p zs l g e q => a3 y p zs l g e (List.mem_singleton.mp q))
  refine wp_store (C := C.prot [l1] h3 W2.G) (kindC K.prot) S3p F3p (sto_kind K.prot hx2) q2 q2.has ⟨l2, o2, ls2, n2, rfl, g2, hc2, hd2, hr2, pr2.prot fun q => hne12 (List.mem_singleton.mp q), b1, b2⟩ (fun _ _ _ e1 e2 y p' zs hy g e => by cases e2; exact b3 y p' zs _ g e rfl) fun h4 tk4 S4p => ?_
  have g4 : h4.get? l1 = some o1 := S4p.kept (List.mem_singleton.mpr rfl) g1 (by rw [← S3.lbe]; exact hlb1)
  have S4 : St hb C W2 ⟨vs1, β2⟩ _ := S4p.unprot hd (fun b q o e => by cases List.mem_singleton.mp q; have := pr1.k; rw [e] at this; cases this) S3.le S3.new
  obtain ⟨m4, cm4, F4p⟩ := S4p.frm
  obtain ⟨F4, hoff⟩ := F4p.unprot hd
  refine wpAny_bind (wpAny_holding (wpAny_bindName ?_))
  exact wp_store (kindC K) S4 F4 (sto_kind K hx1) q1 q1.has ⟨l1, o1, ls1, n1, rfl, g4, hc1, hd1, hr1.mono t2.le t2.lb, pr1, a1, a2⟩ (fun _ _ _ e1 e2 y p' zs hy g e => by cases e2; exact hoff y p' zs _ g e (List.mem_singleton.mpr rfl)) fun h5 tk5 S5 => wpAny_pure (k W2 _ _ ⟨rfl, S5⟩)

/-- «x[i] = e», x the frame's own list -/
theorem Ex1.setitem {x : Str} {npos tpos pos : Pos} {i e : Expr} {q0 : Bool} {xs : List MV} {k : Int} {y : MV} {vs' : List (Str × Slot)} (hx : isVar sc x = true) (g : Get σ.vs x (.own q0 xs)) (h1 : Ev prog w hb sc d σ e y β1) (h2 : Ev prog w hb sc d (σ.bx β1) i (.int k) β2)
    (h0 : 0 ≤ k) (hk : k < xs.length) (hk2 : k ≤ 2 ^ 62) (p : Put σ.vs x (.own false (xs.set k.toNat y)) vs') (hs : ∀ env, swapsWith e (some (.Subscript (.Name x npos) i tpos)) pos.line env = pure false) :
    Ex1 prog w hb sc d σ (.Assign [.Subscript (.Name x npos) i tpos] e pos) (.nxt ⟨vs', β2⟩) := fun A C W s Q R K S k' => by
  obtain ⟨m, cm, F⟩ := S.frm
  refine wpAny_Assign_Subscript (h1 A C W s _ R K S fun W1 s1 v1 t1 r1 => ?_) (hs _)
  have S1 := S.step t1
  have F1 := F.step S t1
  obtain ⟨l, o, vs, n, e, o1, o2, o3, o4, o5, _⟩ := F1.var x _ g
  refine wp_load K F1 hx g e (h2 A C W1 s1 _ R K S1 fun W2 s2 v2 t2 r2 => ?_)
  have S2 := S1.step t2
  have F2 := F1.step S1 t2
  cases r2
  have il : s2.heap.IsList l vs := ⟨o, t2.ext _ _ o1 o5.l, o2.1, n, o3⟩
  have r4 := o4.mono t2.le t2.lb
  have hlen : vs.size = xs.length := by rw [← r4.length]; simp
  refine wpAny_setItem_list il h0 (by omega) (by rw [hlen]; exact hk) fun h' il' hs' => ?_
  have rr : RVs W2 (vs.setIfInBounds k.toNat v1).toList (xs.set k.toNat y) := by
    rw [Array.toList_setIfInBounds]; exact r4.set (r1.mono t2.le t2.lb) _
  exact k' W2 _ _ ⟨rfl, S2.upd (tk := s2.toks) (p0 := false) F2 g e hs' il' (fun z => nomatch z) rr p⟩

/-- «x.append(e)», x the frame's own list -/
theorem Ex1.append {x : Str} {npos apos cpos pos : Pos} {e : Expr} {xs : List MV} {y : MV} {vs' : List (Str × Slot)} (hx : isVar sc x = true) (g : Get σ.vs x (.own true xs)) (h1 : Ev prog w hb sc d σ e y β1)
    (p : Put σ.vs x (.own true (xs ++ [y])) vs') (hl : xs.length ≤ 16777216) (hn : notStar e = true) (hline : (apos.endLine == cpos.line) = true) (hkf : sc.kind = .function) :
    Ex1 prog w hb sc d σ (.Expr (.Call (.Attribute (.Name x npos) "append" apos) [e] [] cpos) pos) (.nxt ⟨vs', β1⟩) := fun A C W s Q R K S k' => by
  have hi : interactive C.env = false := by unfold interactive; rw [K.scope, hkf]; rfl
  obtain ⟨m, cm, F⟩ := S.frm
  obtain ⟨l, o, vs, n, e', o1, o2, o3, o4, o5, _⟩ := F.var x _ g
  have ht : backTo cpos (starEach [e] C.env) = [(false, eval e C.env)] := by rw [starEach_cons hn]; rfl
  refine wpAny_Expr (wpAny_Call_append rfl ?_ hline ht (wp_load K F hx g e' ⟨l, vs, rfl, ⟨o, n, o1, o2.1, o2.2 rfl, o3⟩, h1 A C W s _ R K S fun W1 s1 v1 t1 r1 => ?_⟩)) hi
  · rw [ht]; rfl
  have S1 := S.step t1
  have F1 := F.step S t1
  have r4 := o4.mono t1.le t1.lb
  have hlen : vs.size = xs.length := by rw [← r4.length]; simp
  refine list_append_plainL ⟨o, n, t1.ext _ _ o1 o5.l, o2.1, o2.2 rfl, o3⟩ (fun h' pl hs' => ?_) (by rw [hlen]; exact hl)
  exact k' W1 _ _ ⟨rfl, S1.upd (tk := s1.toks) F1 g e' hs' pl.isList (fun _ => pl) (by rw [Array.toList_push]; exact r4.append (.cons r1 .nil)) p⟩

/-- a while: the turns' states are given -/
theorem Ex1.while_ {t : Expr} {b : List Stmt} {pos : Pos} (σs : Nat → Sg) (n : Nat) (h0 : σs 0 = σ) (ht : ∀ i, i < n → IsT prog w hb sc d (σs i) t true (σs i).box) (hb' : ∀ i, i < n → Ex prog w hb sc d (σs i) b (.nxt (σs (i + 1)))) (he : IsT prog w hb sc d (σs n) t false (σs n).box) :
    Ex1 prog w hb sc d σ (.While t b [] pos) (.nxt (σs n)) := fun A C W s Q R K S k => by
  refine wpAny_While (codeAny_whileLoop (fun j s' => ∃ i W', j = n - i ∧ i ≤ n ∧ St hb C W' (σs i) s') ?_ n ⟨0, W, rfl, Nat.zero_le _, h0 ▸ S⟩)
  rintro j s' ⟨i, W', rfl, hi, S'⟩
  by_cases q : i < n
  · refine wpAny_noRaise (ht i q A C W' s' _ R K S' fun W1 s1 t1 => ?_)
    rw [if_pos rfl]
    refine wpAny_noRaise (hb' i q A C W1 s1 _ R K (S'.step t1) fun W2 s2 f l => ?_)
    obtain ⟨rfl, S2⟩ := l
    exact ⟨n - (i + 1), by omega, i + 1, W2, rfl, q, S2⟩
  · have hin : i = n := by omega
    subst hin
    refine wpAny_noRaise (he A C W' s' _ R K S' fun W1 s1 t1 => ?_)
    rw [if_neg (by decide)]
    exact wpAny_execs_nil (k W1 s1 _ ⟨rfl, S'.step t1⟩)
end
end Mine
end
section
open PySem PySem.Calls PyProof.Rows PySem.W
set_option Elab.async false
set_option maxRecDepth 100000
set_option linter.unusedVariables false
namespace Mine

section
variable {prog : Program} {w : World} {hb : Heap} {sc : Scope} {d d' : Nat} {σ σ' : Sg} {β β1 β2 β3 β' β'' : Bx}

theorem ItmRel.mono {W W' : Wd} {h : Heap} {v : Value} {x : Itm} (le : ∀ b o, W.G b = some o → W'.G b = some o) (hl : W'.lb = W.lb) (r : ItmRel W h v x) : ItmRel W' h v x := by
  cases x with
  | one x => exact RV.mono le hl r
  | two x y =>
    obtain ⟨T, a, b, e, hT, r1, r2⟩ := r
    exact ⟨T, a, b, e, hT, r1.mono le hl, r2.mono le hl⟩

/-- the iterator has moved: what it writes is none of the frame's -/
theorem St.moved {C : Ctx} {W : Wd} {s : Shared} {wr : List Addr} {h' : Heap} {tk : Nat} {m cm : Str → Option Value} (S : St hb C W σ s) (F : Frm hb C W σ s.heap m cm)
    (hwb : ∀ b ∈ wr, hb.get? b = none) (hwl : ∀ b ∈ wr, C.lb ≠ some b) (hwg : ∀ b ∈ wr, W.G b = none) (hwk : ∀ b ∈ wr, C.K b = none) (hL : C.env.locals ∉ wr) (hC : ∀ y c, C.env.cells.lookup y = some c → c ∉ wr)
    (hO : ∀ y p zs l, Get σ.vs y (.own p zs) → valOf C.env m cm y = some (.ref l) → l ∉ wr) (hk : ∀ b o, b ∉ wr → s.heap.get? b = some o → h'.get? b = some o) :
    St hb C W σ { s with heap := h', toks := tk } ∧ Frm hb C W σ h' m cm := by
  have F' : Frm hb C W σ h' m cm := by
    refine ⟨F.ns.at' fun o e => hk _ o hL e, fun y c e => ?_, fun y sl g => ?_, F.has, F.uniq⟩
    · obtain ⟨o, ho, hd⟩ := F.cell y c e
      exact ⟨o, hk _ o (hC y c e) ho, hd⟩
    · have q := F.var y sl g
      cases sl with
      | un => trivial
      | val z => exact q
      | own p xs =>
        obtain ⟨l, o, vs, n, e, h1, r⟩ := q
        exact ⟨l, o, vs, n, e, hk _ o (hO y p xs l g e) h1, r⟩
  refine ⟨⟨⟨?_, ?_, ?_⟩, ?_, ?_, S.le, S.new, ⟨m, cm, F'⟩, S.privL, S.privC, S.apart, S.lbe⟩, F'⟩
  · exact fun b o e => hk b o (fun q => by rw [hwb b q] at e; cases e) (S.ok.base b o e)
  · exact fun b o e => hk b o (fun q => by rw [hwg b q] at e; cases e) (S.ok.frz b o e)
  · intro b q
    obtain ⟨h1, h2, o, n, ls, t, h3, h4⟩ := S.ok.box b q
    exact ⟨h1, h2, o, n, ls, t, hk b o (fun z => hwl b z (by rw [← S.lbe]; exact q)) h3, h4⟩
  · obtain ⟨h, t, e⟩ := S.same
    exact ⟨h', tk, by rw [e]⟩
  · exact fun b o e q => hk b o (fun z => by rw [hwk b z] at e; cases e) (S.keep b o e q)

def Iter (prog : Program) (w : World) (hb : Heap) (sc : Scope) (d : Nat) (σ : Sg) (target iter : Expr) (its : List Itm) (β' : Bx) : Prop :=
  ∀ (A : Around) (C : Ctx) (W : Wd) (s : Shared) (Q : Value → Shared → Prop), Room d A → CtxOk sc C → St hb C W σ s →
    (∀ W1 s1 I fp wr P Md Sx, Step hb W s W1 s1 β' → KTurns prog w A target I fp wr its.length P Md Sx → Sx 0 s1.heap →
      (∀ b ∈ wr, s.heap.get? b = none ∧ W1.G b = none) → (∀ b ∈ fp, (∃ o, s1.heap.get? b = some o) ∧ (b ∈ wr ∨ ∃ o, W1.G b = some o)) → (∀ i h, Sx i h → ∀ b ∈ wr, ∃ o, h.get? b = some o) →
      (∀ i v h x, its[i]? = some x → P i v h → ItmRel W1 h v x) → (∀ i (s : Shared) (Q : Value → Shared → Prop), Sx i s.heap → Q (.ref I) s → wpAny (model prog w) A (pyIter (.ref I)) Q (fun _ _ => False) s) → Q (.ref I) s1) →
    wpAny (model prog w) A (eval iter C.env) (fun xv s' => wpAny (model prog w) A (pyIter xv) Q (fun _ _ => False) s') (fun _ _ => False) s

theorem Ex1.for_ {target iter : Expr} {body : List Stmt} {pos : Pos} {its : List Itm} (σs : Nat → Sg) (hit : Iter prog w hb sc d σ target iter its β1) (h0 : σs 0 = σ.bx β1)
    (turn : ∀ i x, its[i]? = some x → ∃ σ', Asg prog w hb sc d (σs i) target x σ' ∧ Ex prog w hb sc d σ' body (.nxt (σs (i + 1))))
    (hs : ∀ env x, foldedSetIterable iter env x = pure x) : Ex1 prog w hb sc d σ (.For target iter body [] pos) (.nxt (σs its.length)) := fun A C W s Q R K S k => by
  refine wpAny_For (hit A C W s _ R K S fun W1 s1 I fp wr P Md Sx t1 T st0 hwr hfp hlive hitm _ => ?_) (hs _)
  have S1 : St hb C W1 (σs 0) s1 := by rw [h0]; exact S.step t1
  obtain ⟨m, cm, F⟩ := S.frm
  have F1 := F.step S t1
  have F1' : Frm hb C W1 (σs 0) s1.heap m cm := by rw [h0]; exact F1
  have offp : ∀ a, (∃ o, s.heap.get? a = some o) → W1.G a = none → a ∉ fp := fun a ⟨o, ho⟩ hg q => by
    rcases (hfp a q).2 with z | ⟨o', z⟩
    · rw [(hwr a z).1] at ho; cases ho
    · rw [hg] at z; cases z
  have hL : C.env.locals ∉ fp := offp _ (by obtain ⟨o, _, _, e, _⟩ := F.ns; exact ⟨o, e⟩) S1.privL.g
  have hC : ∀ y c, C.env.cells.lookup y = some c → c ∉ fp := fun y c e => offp _ (by obtain ⟨o, q, _⟩ := F.cell y c e; exact ⟨o, q⟩) (S1.privC y c e).1.g
  have hO : ∀ y p zs l, Get (σs 0).vs y (.own p zs) → valOf C.env m cm y = some (.ref l) → l ∉ fp := fun y p zs l g e => by
    rw [h0] at g
    obtain ⟨l', o, _, _, q1, q2, _⟩ := F.var y _ g
    rw [e] at q1; cases q1
    obtain ⟨l', _, _, _, q1, _, _, _, _, q5, _⟩ := F1.var y _ g
    rw [e] at q1; cases q1
    exact offp _ ⟨o, q2⟩ q5.g
  have hwb : ∀ b ∈ wr, hb.get? b = none := fun b q => S.ok.bnone (hwr b q).1
  have hwl : ∀ b ∈ wr, C.lb ≠ some b := fun b q => by rw [← S.lbe]; exact S.ok.lnone (hwr b q).1
  have hwk : ∀ b ∈ wr, C.K b = none := fun b q => (S.priv (hwr b q).1).k
  have hfl : ∀ b ∈ fp, C.lb ≠ some b := fun b q e => by
    rcases (hfp b q).2 with z | ⟨o, z⟩
    · exact hwl b z e
    · have := (S1.ok.box b (by rw [S1.lbe]; exact e)).2.1
      rw [z] at this; cases this
  refine codeAny_forLoop_any (fun j s' => ∃ i W' m cm, j = its.length + 1 - i ∧ i ≤ its.length ∧ St hb C W' (σs i) s' ∧ Frm hb C W' (σs i) s'.heap m cm ∧ (∀ y p zs l, Get (σs i).vs y (.own p zs) → valOf C.env m cm y = some (.ref l) → l ∉ fp) ∧
      (∀ b o, W1.G b = some o → W'.G b = some o) ∧ (∀ b ∈ wr, W'.G b = none) ∧ Sx i s'.heap) ?_ (its.length + 1)
    ⟨0, W1, m, cm, rfl, Nat.zero_le _, S1, F1', hO, fun _ _ e => e, fun b q => (hwr b q).2, st0⟩
  rintro j s' ⟨i, W', m, cm, rfl, hi, S', F', hO', hle, hwg, st⟩
  have mv := fun {h' : Heap} {tk : Nat} (hk : ∀ b o, b ∉ wr → s'.heap.get? b = some o → h'.get? b = some o) => S'.moved (tk := tk) F' hwb hwl hwg hwk (fun q => hL (T.sub _ q)) (fun y c e q => hC y c e (T.sub _ q)) (fun y p zs l g e q => hO' y p zs l g e (T.sub _ q)) hk
  by_cases q : i < its.length
  · obtain ⟨x, hx⟩ : ∃ x, its[i]? = some x := ⟨_, List.getElem?_eq_getElem q⟩
    obtain ⟨σ', ha, hbody⟩ := turn i x hx
    refine T.item i s' _ _ q st fun v h2 tk2 hMd hk2 => ?_
    refine T.go i v _ _ _ hMd fun h3 hP st3 hk3 => ?_
    obtain ⟨S3, F3⟩ := mv (tk := tk2) fun b o z e => hk3 b o z (hk2 b o z e)
    have hd3 : ∀ b ∈ fp, ∃ o, h3.get? b = some o := fun b z => by
      rcases (hfp b z).2 with y | ⟨o, y⟩
      · exact hlive _ _ st3 b y
      · exact ⟨o, S3.ok.frz b o (hle b o y)⟩
    have S3p := S3.prot (fp := fp) F3 hL hC hO'
    refine wpAny_noRaise (ha A (C.prot fp h3 W'.G) W' _ v _ R K.prot S3p ((hitm i v h3 x hx hP).mono hle (by rw [S'.lbe, S1.lbe])) fun W4 s4 S4 => ?_)
    refine wpAny_noRaise (hbody A (C.prot fp h3 W'.G) W4 s4 _ R K.prot S4 fun W5 s5 f l => ?_)
    obtain ⟨rfl, S5⟩ := l
    have kp : ∀ b ∈ fp, ∀ o, h3.get? b = some o → s5.heap.get? b = some o := fun b z o ho => S5.kept z ho (hfl b z)
    obtain ⟨m5, cm5, F5⟩ := S5.frm
    obtain ⟨F5', hO5⟩ := F5.unprot hd3
    have hwg5 : ∀ b ∈ wr, W5.G b = none := fun b z => by
      cases e : W5.G b with
      | none => rfl
      | some o =>
        rcases S5.new b o e with y | y
        · rw [show (C.prot fp h3 W'.G).G₀ b = W'.G b from rfl, hwg b z] at y; cases y
        · simp only [Ctx.prot, if_pos (T.sub b z)] at y
          obtain ⟨o', ho⟩ := hd3 b (T.sub b z)
          rw [ho] at y; cases y
    refine ⟨its.length + 1 - (i + 1), by omega, i + 1, W5, m5, cm5, rfl, q, ?_, F5', hO5, fun b o e => S5.le b o (hle b o e), hwg5, T.frame _ _ _ st3 fun b z o e => kp b z o e⟩
    refine S5.unprot hd3 (fun b z o e => ?_) S3.le S3.new
    exact kp b z o (S3.keep b o e (by rw [S3.lbe]; exact hfl b z))
  · have hin : i = its.length := by omega
    subst hin
    refine T.done s' _ _ st fun h2 tk2 hk2 => ?_
    exact wpAny_execs_nil (k W' _ _ ⟨rfl, (mv hk2).1⟩)

/-! sources -/
theorem Iter.list {x : Str} {p : Pos} {iter : Expr} {xs : List MV} (h1 : Ev prog w hb sc d σ iter (.list xs) β1) : Iter prog w hb sc d σ (.Name x p) iter (xs.map .one) β1 := fun A C W s Q R K S k =>
  h1 A C W s _ R K S fun W1 s1 v1 t1 r1 => by
    have ok := t1.okay S.ok
    cases r1 with
    | list g1 g2 g3 g4 =>
      rename_i l o vs n
      have il : s1.heap.IsList l vs := ⟨o, ok.frz _ _ g1, g2, n, g3⟩
      refine wpAny_pyIter_list il ?_
      have hne : l ≠ s1.heap.objs.size := Nat.ne_of_lt (Heap.lt_size (ok.frz _ _ g1))
      have t2 := Step.grow (tk := s1.toks) (h' := s1.heap.push { cls := .type "list_iterator", data := .fields #[.ref l, .int 0 0] }) ok (fun b o e => Heap.get?_push_of_some _ e)
      have hlen : vs.size = (xs.map Itm.one).length := by rw [List.length_map, ← g4.length]; simp
      refine k W1 _ _ [s1.heap.objs.size, l] [s1.heap.objs.size] _ _ _ (t1.trans t2) (hlen ▸ KTurns.ofWalks (Walks.list R.handled s1.heap.objs.size l hne vs) fun i v s Q E _ h => wpAny_pure h) ⟨⟨_, Heap.get?_push_size _ rfl, rfl, rfl⟩, il.push _⟩ ?_ ?_ ?_ ?_ fun i s Q h q => (Walks.list R.handled s1.heap.objs.size l hne vs).self i s Q _ h q
      · intro b q
        cases List.mem_singleton.mp q
        exact ⟨t1.back (none_size _), ok.gnone (none_size _)⟩
      · intro b q
        rcases List.mem_cons.mp q with rfl | q
        · exact ⟨⟨_, Heap.get?_push_size _ rfl⟩, .inl (List.mem_singleton.mpr rfl)⟩
        · cases List.mem_singleton.mp q
          exact ⟨⟨_, Heap.get?_push_of_some _ (ok.frz _ _ g1)⟩, .inr ⟨_, g1⟩⟩
      · rintro i h ⟨⟨o, ho, _⟩, _⟩ b q
        cases List.mem_singleton.mp q
        exact ⟨o, ho⟩
      · intro i v h y hy hP
        rw [List.getElem?_map] at hy
        obtain ⟨x, hx, rfl⟩ := Option.map_eq_some_iff.mp hy
        obtain ⟨v', e, r⟩ := g4.get hx
        have : vs.toList[i]? = some v := by simpa using hP
        rw [e] at this; cases this
        exact r

/-- the ints of a range -/
def rgInts (a c : Int) (n : Nat) : List Int := (List.range n).map fun (i : Nat) => a + (i : Int) * c
theorem rangeOk {A : Around} {C : Ctx} {W W1 : Wd} {s s1 : Shared} {x : Str} {p : Pos} {a b c : Int} {t u v : Tok} {ns : List Int} {Q : Value → Shared → Prop} (R : Room d A) (S : St hb C W σ s) (t1 : Step hb W s W1 s1 β1) {tk : Nat}
    (hn : ns = rgInts a c (Builtin.Range.rangeSize a b c).toNat) (hz : 0 ≤ Builtin.Range.rangeSize a b c) (hsm : Builtin.Range.small a b c = true)
    (k : ∀ W1 s1 I fp wr P Md Sx, Step hb W s W1 s1 β1 → KTurns prog w A (.Name x p) I fp wr (ns.map fun i => Itm.one (.int i)).length P Md Sx → Sx 0 s1.heap →
      (∀ b ∈ wr, s.heap.get? b = none ∧ W1.G b = none) → (∀ b ∈ fp, (∃ o, s1.heap.get? b = some o) ∧ (b ∈ wr ∨ ∃ o, W1.G b = some o)) → (∀ i h, Sx i h → ∀ b ∈ wr, ∃ o, h.get? b = some o) →
      (∀ i v h y, (ns.map fun i => Itm.one (.int i))[i]? = some y → P i v h → ItmRel W1 h v y) → (∀ i (s : Shared) (Q : Value → Shared → Prop), Sx i s.heap → Q (.ref I) s → wpAny (model prog w) A (pyIter (.ref I)) Q (fun _ _ => False) s) → Q (.ref I) s1) :
    wpAny (model prog w) A (pyIter (.ref s1.heap.objs.size)) Q (fun _ _ => False) { s1 with heap := s1.heap.push { cls := .type "range", data := .fields #[.int a t, .int b u, .int c v] }, toks := tk } := by
  have ok := t1.okay S.ok
  refine wpAny_pyIter_range (IsRange.new ..) hsm ?_
  have t2 := Step.grow (tk := tk) (h' := s1.heap.push { cls := .type "range", data := .fields #[.int a t, .int b u, .int c v] }) ok (fun b o e => Heap.get?_push_of_some _ e)
  have ok2 := t2.okay ok
  have t3 := Step.grow (tk := tk) (h' := (s1.heap.push { cls := .type "range", data := .fields #[.int a t, .int b u, .int c v] }).push { cls := .type "range_iterator", data := .fields #[rawInt a, rawInt (Builtin.Range.rangeSize a b c), rawInt c] }) ok2 (fun b o e => Heap.get?_push_of_some _ e)
  have hlen : (ns.map fun i => Itm.one (.int i)).length = (Builtin.Range.rangeSize a b c).toNat := by rw [hn]; simp [rgInts]
  have hnone := none_size (s1.heap.push { cls := .type "range", data := .fields #[.int a t, .int b u, .int c v] })
  rw [hlen] at k
  refine k W1 _ _ [_] [_] _ _ _ ((t1.trans t2).trans t3) (KTurns.ofWalks (Walks.range R.handled _ a c _) fun i v s Q E _ h => wpAny_pure h) ?_ ?_ ?_ ?_ ?_ fun i s Q h q => (Walks.range R.handled _ a c _).self i s Q _ h q
  · have e1 : a + ((0 : Nat) : Int) * c = a := by simp
    have e2 : ((Builtin.Range.rangeSize a b c).toNat : Int) - ((0 : Nat) : Int) = Builtin.Range.rangeSize a b c := by rw [Int.toNat_of_nonneg hz]; simp
    rw [e1, e2]
    exact Heap.get?_push_size _ rfl
  · intro b q
    cases List.mem_singleton.mp q
    exact ⟨(t1.trans t2).back hnone, ok2.gnone hnone⟩
  · intro b q
    cases List.mem_singleton.mp q
    exact ⟨⟨_, Heap.get?_push_size _ rfl⟩, .inl (List.mem_singleton.mpr rfl)⟩
  · intro i h st b q
    cases List.mem_singleton.mp q
    exact ⟨_, st⟩
  · rintro i v' h y hy ⟨t', rfl⟩
    rw [List.getElem?_map] at hy
    obtain ⟨z, hz', rfl⟩ := Option.map_eq_some_iff.mp hy
    have : z = a + (i : Int) * c := by
      rw [hn] at hz'
      unfold rgInts at hz'
      rw [List.getElem?_map] at hz'
      obtain ⟨j, hj, rfl⟩ := Option.map_eq_some_iff.mp hz'
      by_cases hlt : i < (Builtin.Range.rangeSize a b c).toNat
      · rw [List.getElem?_range hlt] at hj; cases hj; rfl
      · rw [List.getElem?_eq_none (by simp; omega)] at hj; cases hj
    subst this
    exact .int _ _
end
end Mine
end
section
open PySem PySem.Calls PyProof.Rows PySem.W
set_option Elab.async false
set_option maxRecDepth 100000
set_option linter.unusedVariables false
namespace Mine

section
variable {prog : Program} {w : World} {hb : Heap} {sc : Scope} {d d' : Nat} {σ σ' : Sg} {β β1 β2 β3 β' β'' : Bx}

theorem Iter.range1 {f x : Str} {p fp pos : Pos} {e : Expr} {n : Int} (hf : isGlob sc f = true) (hg : BuiltIs hb f (.type "range")) (hs : notStar e = true) (h1 : Ev prog w hb sc d σ e (.int n) β1) (h2 : -(2 ^ 62) ≤ n) (h3 : n < 2 ^ 62) :
    Iter prog w hb sc d σ (.Name x p) (.Call (.Name f fp) [e] [] pos) ((rgInts 0 1 n.toNat).map fun i => .one (.int i)) β1 := fun A C W s Q R K S k => by
  refine wpAny_Call_NameR (wp_built K S.ok hf hg ?_)
  rw [starEach_cons hs]
  refine PySem.callWith_type rfl (Calls.evalArgs_plain (Calls.spliced_cons (h1 A C W s _ R K S fun W1 s1 v1 t1 r1 => Calls.spliced_nil ?_)))
  cases r1
  show wpAny _ _ (call (.type "range") [.int n _] []) _ _ _
  have hsz : Builtin.Range.rangeSize 0 n 1 = n.toNat := by rw [rangeSize_one]; split <;> omega
  exact call_range_1 (rangeOk R S t1 (by rw [hsz, Int.toNat_natCast]) (by rw [hsz]; omega) (small_one (by decide) (by decide) h2 h3) k)
theorem Iter.range2 {f x : Str} {p fp pos : Pos} {e1 e2 : Expr} {a b : Int} (hf : isGlob sc f = true) (hg : BuiltIs hb f (.type "range")) (hs1 : notStar e1 = true) (hs2 : notStar e2 = true) (h1 : Ev prog w hb sc d σ e1 (.int a) β1) (h2 : Ev prog w hb sc d (σ.bx β1) e2 (.int b) β2)
    (ha : -(2 ^ 62) ≤ a) (ha' : a < 2 ^ 62) (hb1 : -(2 ^ 62) ≤ b) (hb2 : b < 2 ^ 62) :
    Iter prog w hb sc d σ (.Name x p) (.Call (.Name f fp) [e1, e2] [] pos) ((rgInts a 1 (b - a).toNat).map fun i => .one (.int i)) β2 := fun A C W s Q R K S k => by
  refine wpAny_Call_NameR (wp_built K S.ok hf hg ?_)
  rw [starEach_cons hs1, starEach_cons hs2]
  refine PySem.callWith_type rfl (Calls.evalArgs_plain (Calls.spliced_cons (h1 A C W s _ R K S fun W1 s1 v1 t1 r1 => Calls.spliced_cons (h2 A C W1 s1 _ R K (S.step t1) fun W2 s2 v2 t2 r2 => Calls.spliced_nil ?_))))
  cases r1; cases r2
  show wpAny _ _ (call (.type "range") [.int a _, .int b _] []) _ _ _
  have hsz : Builtin.Range.rangeSize a b 1 = (b - a).toNat := by rw [rangeSize_one]; split <;> omega
  exact call_range_2 (rangeOk R S (t1.trans t2) (by rw [hsz, Int.toNat_natCast]) (by rw [hsz]; omega) (small_one ha ha' hb1 hb2) k)
theorem size_down (a b : Int) : Builtin.Range.rangeSize a b (-1) = (a - b).toNat := by
  unfold Builtin.Range.rangeSize
  simp only [show ¬ ((-1 : Int) > 0) by decide, if_false, Int.neg_neg, Int.ediv_one]
  split <;> omega
theorem small_down {a b : Int} (ha : -(2 ^ 60) ≤ a) (ha' : a < 2 ^ 60) (hb1 : -(2 ^ 60) ≤ b) (hb2 : b < 2 ^ 60) : Builtin.Range.small a b (-1) = true := by
  unfold Builtin.Range.small
  rw [size_down]
  simp only [Builtin.Range.rangeFitsLong, Bool.and_eq_true, Bool.or_eq_true, decide_eq_true_eq, beq_iff_eq]
  simp
  omega
theorem Iter.range_down {f x : Str} {p fp pos : Pos} {e1 e2 e3 : Expr} {a b : Int} (hf : isGlob sc f = true) (hg : BuiltIs hb f (.type "range")) (hs1 : notStar e1 = true) (hs2 : notStar e2 = true) (hs3 : notStar e3 = true) (h1 : Ev prog w hb sc d σ e1 (.int a) β1) (h2 : Ev prog w hb sc d (σ.bx β1) e2 (.int b) β2)
    (h3 : Ev prog w hb sc d ((σ.bx β1).bx β2) e3 (.int (-1)) β3) (ha : -(2 ^ 60) ≤ a) (ha' : a < 2 ^ 60) (hb1 : -(2 ^ 60) ≤ b) (hb2 : b < 2 ^ 60) :
    Iter prog w hb sc d σ (.Name x p) (.Call (.Name f fp) [e1, e2, e3] [] pos) ((rgInts a (-1) (a - b).toNat).map fun i => .one (.int i)) β3 := fun A C W s Q R K S k => by
  refine wpAny_Call_NameR (wp_built K S.ok hf hg ?_)
  rw [starEach_cons hs1, starEach_cons hs2, starEach_cons hs3]
  refine PySem.callWith_type rfl (Calls.evalArgs_plain (Calls.spliced_cons (h1 A C W s _ R K S fun W1 s1 v1 t1 r1 => Calls.spliced_cons (h2 A C W1 s1 _ R K (S.step t1) fun W2 s2 v2 t2 r2 => Calls.spliced_cons (h3 A C W2 s2 _ R K ((S.step t1).step t2) fun W3 s3 v3 t3 r3 => Calls.spliced_nil ?_)))))
  cases r1; cases r2; cases r3
  show wpAny _ _ (call (.type "range") [.int a _, .int b _, .int (-1) _] []) _ _ _
  exact call_range_3 (by decide) (rangeOk R S ((t1.trans t2).trans t3) (by rw [size_down, Int.toNat_natCast]) (by rw [size_down]; omega) (small_down ha ha' hb1 hb2) k) (.inl (PyProof.noPylong_small (by decide)))

/-- the pairs of an enumeration -/
def enI (xs : List MV) : List Itm := xs.zipIdx.map fun z => .two (.int z.2) z.1
theorem Iter.enum {f x1 x2 : Str} {p1 p2 tp fp pos : Pos} {kk : Nat} {e : Expr} {xs : List MV} (hf : isGlob sc f = true) (hg : BuiltIs hb f (.type "enumerate")) (hs : notStar e = true) (h1 : Ev prog w hb sc d σ e (.list xs) β1) :
    Iter prog w hb sc d σ (.Tuple [.Name x1 p1, .Name x2 p2] kk tp) (.Call (.Name f fp) [e] [] pos) (enI xs) β1 := fun A C W s Q R K S k => by
  refine wpAny_Call_NameR (wp_built K S.ok hf hg ?_)
  rw [starEach_cons hs]
  refine PySem.callWith_type rfl (Calls.evalArgs_plain (Calls.spliced_cons (h1 A C W s _ R K S fun W1 s1 v1 t1 r1 => Calls.spliced_nil ?_)))
  show wpAny _ _ (call (.type "enumerate") [v1] []) _ _ _
  have ok := t1.okay S.ok
  cases r1 with
  | list g1 g2 g3 g4 =>
    rename_i l o vs n
    have hlo := ok.frz _ _ g1
    have il : s1.heap.IsList l vs := ⟨o, hlo, g2, n, g3⟩
    refine call_enumerate_list il fun h' he hit hsz hk => ?_
    refine wpAny_pyIter_enum he ?_
    have t2 := Step.grow (tk := s1.toks) (h' := h') ok hk
    have hlt := Heap.lt_size hlo
    have hlen : vs.size = (enI xs).length := by unfold enI; rw [List.length_map, List.length_zipIdx, ← g4.length]; simp
    have hn1 : s1.heap.get? (s1.heap.objs.size + 1) = none := by
      cases e : s1.heap.get? (s1.heap.objs.size + 1) with
      | none => rfl
      | some o => exact absurd (Heap.lt_size e) (Nat.not_lt.mpr (Nat.le_succ _))
    refine k W1 _ _ [s1.heap.objs.size + 1, s1.heap.objs.size, l] [s1.heap.objs.size + 1, s1.heap.objs.size] _ _ _ (t1.trans t2)
      (hlen ▸ KTurns.ofWalksU (WalksT.enumerate R.handled (s1.heap.objs.size + 1) s1.heap.objs.size l (Nat.succ_ne_self _) (Nat.ne_of_lt (Nat.lt_succ_of_lt hlt)) (Nat.ne_of_lt hlt) vs).toU) ⟨⟨_, he⟩, hit, il.at fun o e => hk _ o e⟩ ?_ ?_ ?_ ?_ fun i s Q h q => (WalksT.enumerate R.handled (s1.heap.objs.size + 1) s1.heap.objs.size l (Nat.succ_ne_self _) (Nat.ne_of_lt (Nat.lt_succ_of_lt hlt)) (Nat.ne_of_lt hlt) vs).toU.self i s Q _ h q
    · intro b q
      rcases List.mem_cons.mp q with rfl | q
      · exact ⟨t1.back hn1, ok.gnone hn1⟩
      · cases List.mem_singleton.mp q
        exact ⟨t1.back (none_size _), ok.gnone (none_size _)⟩
    · intro b q
      rcases List.mem_cons.mp q with rfl | q
      · exact ⟨⟨_, he⟩, .inl (.head _)⟩
      · rcases List.mem_cons.mp q with rfl | q
        · obtain ⟨o, ho, _⟩ := hit
          exact ⟨⟨o, ho⟩, .inl (.tail _ (.head _))⟩
        · cases List.mem_singleton.mp q
          exact ⟨⟨_, hk _ _ hlo⟩, .inr ⟨_, g1⟩⟩
    · rintro i h ⟨⟨old, h1⟩, ⟨o, ho, _⟩, _⟩ b q
      rcases List.mem_cons.mp q with rfl | q
      · exact ⟨_, h1⟩
      · cases List.mem_singleton.mp q
        exact ⟨o, ho⟩
    · rintro i v h y hy ⟨T, vals, rfl, ⟨t, x, hx, rfl⟩, hT⟩
      unfold enI at hy
      rw [List.getElem?_map, List.getElem?_zipIdx] at hy
      obtain ⟨z, hz, rfl⟩ := Option.map_eq_some_iff.mp hy
      obtain ⟨a, ha, rfl⟩ := Option.map_eq_some_iff.mp hz
      obtain ⟨v', e, r⟩ := g4.get ha
      have : vs.toList[i]? = some x := by simpa using hx
      rw [e] at this; cases this
      refine ⟨T, _, _, rfl, hT, ?_, r⟩
      simp only [Nat.zero_add]
      exact .int _ _

/-- «[x] * n» -/
theorem fold_rep (v : Value) : ∀ (k : Nat) (a : Array Value), (List.foldl (fun x1 x2 => x1 ++ x2) a (List.replicate k #[v])).toList = a.toList ++ List.replicate k v
  | 0, a => by simp
  | k + 1, a => by
    rw [List.replicate_succ, List.foldl_cons, fold_rep v k, Array.toList_append, List.replicate_succ]
    simp
theorem EvL.mul {e1 e2 : Expr} {p pos : Pos} {x : MV} {n : Int} (h1 : Ev prog w hb sc d σ e1 x β1) (h2 : Ev prog w hb sc d (σ.bx β1) e2 (.int n) β2) (hs : notStar e1 = true) (hn : n ≤ 16777216) (hn0 : -(2 ^ 62) ≤ n) :
    EvL prog w hb sc d σ (.BinOp (.List [e1] p) .Mult e2 pos) (List.replicate n.toNat x) β2 := fun A C W s Q R K S k => by
  refine wpAny_BinOp (List_ ?_)
  rw [starEach_cons hs]
  refine Calls.spliced_cons (h1 A C W s _ R K S fun W1 s1 v1 t1 r1 => Calls.spliced_nil (wpAny_newObj_type ?_ (by show [v1].toArray.size ≤ sizeLine; simp [sizeLine])))
  have ok := t1.okay S.ok
  have t2 := Step.grow (tk := s1.toks) (h' := s1.heap.push { cls := .type "list", data := .seq [v1].toArray }) ok (fun b o e => Heap.get?_push_of_some _ e)
  have ok2 := t2.okay ok
  refine h2 A C W1 _ _ R K ((S.step t1).step t2) fun W3 s3 v3 t3 r3 => ?_
  cases r3
  have hl : s3.heap.get? s1.heap.objs.size = some { cls := .type "list", dict := none, data := .seq [v1].toArray 0, slots := #[] } := t3.ext _ _ (Heap.get?_push_size _ rfl) (ok.lnone (none_size _))
  have ok3 := t3.okay ok2
  rename_i tk3
  refine wpAny_binaryOp_repeat_ref (T := "list") (U := "int") (by decide) ⟨_, hl, rfl⟩ (fun s' => typeIs_int s' n tk3) noFill_list_mul F.fills_int_mul F.slot_int_rmul repeat_list F.slot_int_index.lookup ?_
  refine call_meets F.slot_int_rmul (typeIs_int s3 n tk3) F.entry_int_rmul (F.args_int_rmul_2 _ _) (int___rmul___int_list n tk3 s1.heap.objs.size [v1].toArray 0) ⟨hl, rfl, ⟨_, hl, rfl⟩, ?_⟩
  refine call_meets F.slot_list_mul ⟨_, hl, rfl⟩ F.entry_list_mul (F.args_list_mul_2 _ _) (AutoListH.list___mul___list_int_3 s1.heap.objs.size [v1].toArray 0 n tk3 (by simp [Builtin.List.listFitsIndex]; omega) (by simp; omega) (by simp [Builtin.List.listTooLong, sizeLine]; omega)) ⟨hl, ?_⟩
  have t4 := Step.grow (tk := s3.toks) (h' := s3.heap.push { cls := .type "list", data := .seq (List.foldl (fun x1 x2 => x1 ++ x2) #[] (List.replicate (if [v1].toArray.isEmpty = true then 0 else n.toNat) [v1].toArray)) }) ok3 (fun b o e => Heap.get?_push_of_some _ e)
  refine k W3 _ _ _ _ 0 (((t1.trans t2).trans t3).trans t4) (((t1.trans t2).trans t3).back (none_size _)) (Heap.get?_push_size _ rfl) ⟨rfl, fun _ => rfl⟩ rfl ?_ (ok3.gnone (none_size _))
  have : ([v1].toArray.isEmpty = true) = False := by simp
  simp only [this, if_false]
  rw [show ([v1].toArray : Array Value) = #[v1] from rfl, fold_rep]
  simpa using RVs.replicate ((r1.mono t2.le t2.lb).mono t3.le t3.lb) n.toNat
end
end Mine
end
section
open PySem PySem.Calls PyProof.Rows PySem.W
set_option Elab.async false
set_option maxRecDepth 100000
set_option linter.unusedVariables false
namespace Mine

/-! ## a def entered -/
def initS (names : List Str) (xs : List MV) (rest : List Str) : List (Str × Slot) := names.zip (xs.map .val) ++ rest.map fun y => (y, .un)

theorem Get.append : ∀ {l1 l2 : List (Str × Slot)} {y : Str} {sl : Slot}, Get (l1 ++ l2) y sl → Get l1 y sl ∨ Get l2 y sl
  | [], _, _, _, g => .inr g
  | (x, s) :: l1, l2, y, sl, g => by
    cases g with
    | here => exact .inl .here
    | there h g => exact g.append.imp (.there h) id
theorem Get.zip : ∀ {names : List Str} {xs : List MV} {y : Str} {sl : Slot}, Get (names.zip (xs.map .val)) y sl → ∃ (i : Nat) (x : MV), names[i]? = some y ∧ xs[i]? = some x ∧ sl = .val x
  | [], _, _, _, g => nomatch g
  | _ :: _, [], _, _, g => nomatch g
  | n :: names, x :: xs, y, sl, g => by
    cases g with
    | here => exact ⟨0, x, rfl, rfl, rfl⟩
    | there h g =>
      obtain ⟨i, z, h1, h2, h3⟩ := Get.zip g
      exact ⟨i + 1, z, by simpa using h1, by simpa using h2, h3⟩
theorem Get.uns : ∀ {rest : List Str} {y : Str} {sl : Slot}, Get (rest.map fun y => (y, Slot.un)) y sl → y ∈ rest ∧ sl = .un
  | [], _, _, g => nomatch g
  | n :: rest, y, sl, g => by
    cases g with
    | here => exact ⟨.head _, rfl⟩
    | there h g => exact ⟨.tail _ g.uns.1, g.uns.2⟩

theorem bind_other {env : Env} {y : Str} : ∀ (binds : List (Str × Value)) (m cm : Str → Option Value), (∀ z ∈ binds, z.1 ≠ y) → valOf env (bindL env.kindOf binds m) (bindC env.kindOf binds cm) y = valOf env m cm y
  | [], _, _, _ => rfl
  | (n, v) :: r, m, cm, h => by
    have hn : y ≠ n := fun e => h (n, v) (.head _) e.symm
    have := bind_other (env := env) (y := y) r (if env.kindOf n = some .local then fun z => if z = n then some v else m z else m) (if env.kindOf n = some .local then cm else fun z => if z = n then some v else cm z) fun z hz => h z (.tail _ hz)
    show valOf env (bindL env.kindOf r _) (bindC env.kindOf r _) y = _
    rw [this]
    unfold valOf
    by_cases c : env.kindOf n = some .local <;> simp [c, hn]
theorem bind_at {env : Env} : ∀ {names : List Str} {vs : List Value} (m cm : Str → Option Value), names.Nodup → ∀ {i : Nat} {y : Str} {v : Value}, names[i]? = some y → vs[i]? = some v → valOf env (bindL env.kindOf (names.zip vs) m) (bindC env.kindOf (names.zip vs) cm) y = some v
  | [], _, _, _, _, i, y, v, h, _ => by simp at h
  | _ :: _, [], _, _, _, i, y, v, _, h => by simp at h
  | n :: names, u :: vs, m, cm, hn, 0, y, v, h1, h2 => by
    simp only [List.getElem?_cons_zero, Option.some.injEq] at h1 h2
    subst h1; subst h2
    have hno : ∀ z ∈ names.zip vs, z.1 ≠ n := fun z hz e => (List.nodup_cons.mp hn).1 (by have := (List.of_mem_zip hz).1; rw [e] at this; exact this)
    show valOf env (bindL env.kindOf (names.zip vs) _) (bindC env.kindOf (names.zip vs) _) n = _
    rw [bind_other _ _ _ hno]
    unfold valOf
    by_cases c : env.kindOf n = some .local <;> simp [c]
  | n :: names, u :: vs, m, cm, hn, i + 1, y, v, h1, h2 => by
    show valOf env (bindL env.kindOf (names.zip vs) _) (bindC env.kindOf (names.zip vs) _) y = _
    exact bind_at _ _ (List.nodup_cons.mp hn).2 (by simpa using h1) (by simpa using h2)

section
variable {prog : Program} {w : World} {hb : Heap} {sc : Scope} {d d' : Nat} {σ σ' : Sg} {β β1 β2 β3 β' β'' : Bx}

theorem FnC.of_ex {name : Str} {params : Arguments} {body : List Stmt} {pm cd doc : Value} {a : Addr} {o : Obj} {names rest : List Str} {xs : List MV} {x : MV} (hlim : hb.NoLimit) (ho : hb.get? a = some o) (hdata : o.data = .func (docDef name params body sc pm cd doc)) (hcr : hb.CodeRec cd name)
    (hbind : ∀ vs : List Value, vs.length = xs.length → bindArgs (docDef name params body sc pm cd doc) ⟨vs, []⟩ = pure (names.zip vs)) (hlen : names.length = xs.length) (hnd : names.Nodup) (hst : (names ++ rest).all (isSto sc) = true)
    (hco : sc.isCoroutine = false) (hgen : sc.isGenerator = false) (hk : sc.kind = .function) (hx : Ex prog w hb sc d ⟨initS names xs rest, β⟩ body (.ret x β')) : FnC prog w hb (d + 1) (.ref a) xs β x β' := fun A W s vs Q R k r h => by
  refine wpAny_call (codeAny_call_cells (fd := docDef name params body sc pm cd doc) (binds := names.zip vs) (by have := R.depth; omega) (k.base _ _ ho) hdata (hlim.keeps k.base) (hcr.keeps k.base) rfl (hbind vs r.length) rfl ?_ (fun s1 I => ?_) hco hgen hk)
  · intro z hz
    have hz' := (List.of_mem_zip hz).1
    have := List.all_eq_true.mp hst z.1 (List.mem_append_left _ hz')
    rcases isSto_or this with q | q
    · exact .inl q
    · exact .inr ⟨q, cellsFrom_some _ _ _ (.inl q)⟩
  generalize hE : callEnvC (docDef name params body sc pm cd doc) s.heap.objs.size a = env at I
  have hsc : env.scope = sc := by rw [← hE]; rfl
  have hLe : env.locals = s.heap.objs.size := by rw [← hE]; rfl
  have hce : env.cells = cellsFrom (s.heap.objs.size + 1) sc.names [] := by rw [← hE]; rfl
  let C : Ctx := { env := env, sh := s, K := s.heap.get?, G₀ := W.G, lb := W.lb }
  have K : CtxOk sc C := ⟨hsc, hk, by show env.globals = _; rw [← hE]; rfl, by show env.builtins = _; rw [← hE]; rfl⟩
  have pv : ∀ b, s.heap.get? b = none → Priv hb C W b := fun b q => ⟨k.gnone q, q, k.bnone q, k.lnone q⟩
  have keep := I.toInCall.keep
  have S : St hb C W ⟨initS names xs rest, β⟩ s1 := by
    refine ⟨⟨fun b o e => keep b o (k.base b o e), fun b o e => keep b o (k.frz b o e), ?_⟩, I.toInCall.same, fun b o e _ => keep b o e, fun b o e => e, fun b o e => .inl e, ⟨_, _, I.toInCall.ns, I.cell, ?_, ?_, ?_⟩, pv _ (by show s.heap.get? env.locals = none; rw [hLe]; exact none_size _), ?_, ?_, rfl⟩
    · intro b q
      obtain ⟨h1, h2, o', n, ls, t, h3, h4⟩ := k.box b q
      exact ⟨h1, h2, o', n, ls, t, keep b o' h3, h4⟩
    · intro y sl g
      rcases g.append with g | g
      · obtain ⟨i, z, h1, h2, rfl⟩ := g.zip
        obtain ⟨v, e, rv⟩ := r.get h2
        exact ⟨v, bind_at _ _ hnd h1 e, rv⟩
      · rw [g.uns.2]; trivial
    · intro y sl g hn
      have hy : isSto sc y = true := by
        rcases g.append with g | g
        · obtain ⟨i, z, h1, h2, _⟩ := g.zip
          exact List.all_eq_true.mp hst y (List.mem_append_left _ (List.mem_of_getElem? h1))
        · exact List.all_eq_true.mp hst y (List.mem_append_right _ g.uns.1)
      rcases isSto_or hy with q | q
      · exact absurd (by unfold Env.kindOf; rw [hsc]; exact q) hn
      · have := cellsFrom_some sc.names (s.heap.objs.size + 1) [] (.inl q)
        show ∃ c, env.cells.lookup y = some c
        rw [hce]
        exact Option.isSome_iff_exists.mp this
    · intro y z p q ys zs l g1 _ _ _
      rcases g1.append with g | g
      · obtain ⟨_, _, _, _, e⟩ := g.zip; cases e
      · have := g.uns.2; cases this
    · intro y c e
      have hc := I.above y c (mem_of_lookup e)
      rw [hLe] at hc
      refine ⟨pv c ?_, ?_⟩
      · cases q : s.heap.get? c with
        | none => rfl
        | some o => exact absurd (Heap.lt_size q) (Nat.not_lt.mpr (Nat.le_of_lt hc))
      · show c ≠ env.locals
        rw [hLe]; exact Nat.ne_of_gt hc
    · intro y z c e1 e2
      exact name_of_addr I.apart (mem_of_lookup e1) (mem_of_lookup e2)
  have R' : Room d (A.deeper env) := ⟨R.handled, by have := R.depth; show A.depth + 1 + d < _; omega, by have := R.units; show A.units + 3 + 8 * d + 100 < _; omega⟩
  refine wpAny_noRaise (hx (A.deeper env) C W s1 _ R' K S fun W' s' f l => ?_)
  obtain ⟨v, σ', rfl, rv, S', hb'⟩ := l
  exact h W' s' v ⟨S'.same, fun b o e q => S'.keep b o e (by rw [S'.lbe]; exact q), S'.le, S'.lbe, S'.new, S'.ok.frz, by have := S'.ok.box; rw [hb'] at this; exact this⟩ rv

/-- the def called name, and what a call of it gives -/
def Fn (prog : Program) (w : World) (hb : Heap) (d : Nat) (name : Str) (xs : List MV) (β : Bx) (x : MV) (β' : Bx) : Prop :=
  ∃ a o fd, GlobIs hb name (.ref a) ∧ hb.get? a = some o ∧ o.data = .func fd ∧ FnC prog w hb d (.ref a) xs β x β'
def DefAt (hb : Heap) (name : Str) (params : Arguments) (body : List Stmt) (sc : Scope) : Prop :=
  ∃ a o pm cd doc, GlobIs hb name (.ref a) ∧ hb.get? a = some o ∧ o.data = .func (docDef name params body sc pm cd doc) ∧ hb.CodeRec cd name

theorem Fn.of_ex {name : Str} {params : Arguments} {body : List Stmt} {names rest : List Str} {xs : List MV} {x : MV} (hd : DefAt hb name params body sc) (hlim : hb.NoLimit)
    (hbind : ∀ pm cd doc (vs : List Value), vs.length = xs.length → bindArgs (docDef name params body sc pm cd doc) ⟨vs, []⟩ = pure (names.zip vs)) (hlen : names.length = xs.length) (hnd : names.Nodup) (hst : (names ++ rest).all (isSto sc) = true)
    (hco : sc.isCoroutine = false) (hgen : sc.isGenerator = false) (hk : sc.kind = .function) (hx : Ex prog w hb sc d ⟨initS names xs rest, β⟩ body (.ret x β')) : Fn prog w hb (d + 1) name xs β x β' := by
  obtain ⟨a, o, pm, cd, doc, h1, h2, h3, h4⟩ := hd
  exact ⟨a, o, _, h1, h2, h3, FnC.of_ex hlim h2 h3 h4 (hbind pm cd doc) hlen hnd hst hco hgen hk hx⟩
theorem Ev.fn {f : Str} {p pos : Pos} {e : Expr} {es : List Expr} {xs : List MV} {x : MV} (h2 : Fn prog w hb d' f xs β1 x β2) (hf : isGlob sc f = true) (hs : notStar e = true) (h1 : Evs prog w hb sc d σ (e :: es) xs β1) (hd : d' ≤ d) : Ev prog w hb sc d σ (.Call (.Name f p) (e :: es) [] pos) x β2 := by
  obtain ⟨a, o, fd, g1, g2, g3, g4⟩ := h2
  exact Ev.app hf g1 g2 g3 hs h1 g4 hd
end
end Mine
end
section
open PySem PySem.Calls PyProof.Rows PySem.W
set_option Elab.async false
set_option maxRecDepth 100000
set_option linter.unusedVariables false
namespace Mine

/-! ## forgetting, folds -/
inductive Wk : List (Str × Slot) → List (Str × Slot) → Prop
  | nil : Wk [] []
  | same {x s s' r r'} : s = s' → Wk r r' → Wk ((x, s) :: r) ((x, s') :: r')
  | drop {x s r r'} : Wk r r' → Wk ((x, s) :: r) ((x, .un) :: r')
theorem Wk.get {vs vs'} (k : Wk vs vs') : ∀ {y sl}, Get vs' y sl → (sl = .un ∨ Get vs y sl) ∧ ∃ u, Get vs y u := by
  induction k with
  | nil => intro y sl g; cases g
  | same e k ih =>
    subst e
    intro y sl g
    cases g with
    | here => exact ⟨.inr .here, _, .here⟩
    | there h g =>
      obtain ⟨a, u, b⟩ := ih g
      exact ⟨a.imp id (.there h), u, .there h b⟩
  | drop k ih =>
    intro y sl g
    cases g with
    | here => exact ⟨.inl rfl, _, .here⟩
    | there h g =>
      obtain ⟨a, u, b⟩ := ih g
      exact ⟨a.imp id (.there h), u, .there h b⟩

section
variable {prog : Program} {w : World} {hb : Heap} {sc : Scope} {d d' : Nat} {σ σ' : Sg} {β β1 β2 β3 β' β'' : Bx}

theorem St.weaken {C : Ctx} {W : Wd} {s : Shared} {vs vs' : List (Str × Slot)} (S : St hb C W ⟨vs, β⟩ s) (k : Wk vs vs') : St hb C W ⟨vs', β⟩ s := by
  obtain ⟨m, cm, F⟩ := S.frm
  refine ⟨S.ok, S.same, S.keep, S.le, S.new, ⟨m, cm, F.ns, F.cell, ?_, ?_, ?_⟩, S.privL, S.privC, S.apart, S.lbe⟩
  · intro y sl g
    rcases (k.get g).1 with rfl | g
    · trivial
    · exact F.var y sl g
  · intro y sl g hn
    obtain ⟨u, g'⟩ := (k.get g).2
    exact F.has y u g' hn
  · intro x y p q xs ys l g1 g2
    rcases (k.get g1).1 with h | g1
    · cases h
    · rcases (k.get g2).1 with h | g2
      · cases h
      · exact F.uniq x y p q xs ys l g1 g2
theorem Ex.done {vs vs' : List (Str × Slot)} (k : Wk vs vs') : Ex prog w hb sc d ⟨vs, β⟩ [] (.nxt ⟨vs', β⟩) := fun A C W s Q R K S h => wpAny_execs_nil (h W s _ ⟨rfl, S.weaken k⟩)
theorem Ex.weak {vs vs' : List (Str × Slot)} {ss : List Stmt} {o : Out} (k : Wk vs vs') (h : Ex prog w hb sc d ⟨vs', β⟩ ss o) : Ex prog w hb sc d ⟨vs, β⟩ ss o := fun A C W s Q R K S q => h A C W s Q R K (S.weaken k) q

theorem Ex1.for_fold {α γ : Type} {target iter : Expr} {body : List Stmt} {pos : Pos} {l : List γ} {g : γ → Itm} {a0 : α} (S : α → Sg) (f : α → γ → α) (inv : α → List γ → Prop) (hit : Iter prog w hb sc d σ target iter (l.map g) β1) (h0 : S a0 = σ.bx β1) (hi : inv a0 l)
    (turn : ∀ a x r, inv a (x :: r) → ∃ σ', Asg prog w hb sc d (S a) target (g x) σ' ∧ Ex prog w hb sc d σ' body (.nxt (S (f a x))) ∧ inv (f a x) r)
    (hs : ∀ env x, foldedSetIterable iter env x = pure x) : Ex1 prog w hb sc d σ (.For target iter body [] pos) (.nxt (S (l.foldl f a0))) := by
  have hinv : ∀ i, i ≤ l.length → inv ((l.take i).foldl f a0) (l.drop i) := by
    intro i
    induction i with
    | zero => intro _; simpa using hi
    | succ i ih =>
      intro h
      have h1 := ih (by omega)
      obtain ⟨x, hx⟩ : ∃ x, l[i]? = some x := ⟨_, List.getElem?_eq_getElem (by omega)⟩
      have e : l.drop i = x :: l.drop (i + 1) := by
        obtain ⟨hlt, rfl⟩ := List.getElem?_eq_some_iff.mp hx
        exact List.drop_eq_getElem_cons hlt
      rw [e] at h1
      obtain ⟨_, _, _, h2⟩ := turn _ _ _ h1
      rw [List.take_add_one, hx]
      simpa [List.foldl_append] using h2
  have := Ex1.for_ (σs := fun i => S ((l.take i).foldl f a0)) (pos := pos) (body := body) hit (by simpa using h0) (fun i y hy => ?_) hs
  · simpa using this
  · rw [List.getElem?_map] at hy
    obtain ⟨x, hx, rfl⟩ := Option.map_eq_some_iff.mp hy
    obtain ⟨hlt, hx'⟩ := List.getElem?_eq_some_iff.mp hx
    have h1 := hinv i (by omega)
    have e : l.drop i = x :: l.drop (i + 1) := by rw [← hx']; exact List.drop_eq_getElem_cons hlt
    rw [e] at h1
    obtain ⟨σ', h2, h3, _⟩ := turn _ _ _ h1
    refine ⟨σ', h2, ?_⟩
    rw [List.take_add_one, hx]
    simpa [List.foldl_append] using h3

def whV {α : Type} (t : α → Bool) (f : α → α) : Nat → α → α
  | 0, a => a
  | n + 1, a => if t a = true then whV t f n (f a) else a

theorem Ex1.while_run {α : Type} {t : Expr} {b : List Stmt} {pos : Pos} (S : α → Sg) (tv : α → Bool) (f : α → α) (inv : α → Prop) (ht : ∀ a, inv a → IsT prog w hb sc d (S a) t (tv a) (S a).box) (hbd : ∀ a, inv a → tv a = true → Ex prog w hb sc d (S a) b (.nxt (S (f a))) ∧ inv (f a)) :
    ∀ (n : Nat) (a0 : α), inv a0 → tv (whV tv f n a0) = false → Ex1 prog w hb sc d (S a0) (.While t b [] pos) (.nxt (S (whV tv f n a0))) := by
  intro n a0 hi he
  -- the number of turns
  have key : ∀ (n : Nat) (a : α), inv a → tv (whV tv f n a) = false → ∃ (σs : Nat → Sg) (k : Nat), σs 0 = S a ∧ (∀ i, i < k → IsT prog w hb sc d (σs i) t true (σs i).box) ∧ (∀ i, i < k → Ex prog w hb sc d (σs i) b (.nxt (σs (i + 1)))) ∧ IsT prog w hb sc d (σs k) t false (σs k).box ∧ σs k = S (whV tv f n a) := by
    intro n
    induction n with
    | zero =>
      intro a hi he
      exact ⟨fun _ => S a, 0, rfl, fun i h => absurd h (Nat.not_lt_zero _), fun i h => absurd h (Nat.not_lt_zero _), by have := ht a hi; rw [show tv a = false from he] at this; exact this, rfl⟩
    | succ n ih =>
      intro a hi he
      unfold whV at he ⊢
      by_cases q : tv a = true
      · rw [if_pos q] at he ⊢
        obtain ⟨h1, h2⟩ := hbd a hi q
        obtain ⟨σs, k, e0, e1, e2, e3, e4⟩ := ih (f a) h2 he
        refine ⟨fun i => match i with | 0 => S a | i + 1 => σs i, k + 1, rfl, ?_, ?_, e3, e4⟩
        · intro i hik
          cases i with
          | zero => have := ht a hi; rw [q] at this; exact this
          | succ i => exact e1 i (by omega)
        · intro i hik
          cases i with
          | zero => show Ex prog w hb sc d (S a) b (.nxt (σs 0)); rw [e0]; exact h1
          | succ i => exact e2 i (by omega)
      · rw [if_neg q] at he ⊢
        exact ⟨fun _ => S a, 0, rfl, fun i h => absurd h (Nat.not_lt_zero _), fun i h => absurd h (Nat.not_lt_zero _), by have := ht a hi; rw [he] at this; exact this, rfl⟩
  obtain ⟨σs, k, e0, e1, e2, e3, e4⟩ := key n a0 hi he
  rw [← e4]
  exact Ex1.while_ σs k e0 e1 e2 e3

theorem Ev.ite_t {t b o : Expr} {pos : Pos} {c : Bool} {x : MV} (ht : IsT prog w hb sc d σ t c β1) (hc : c = true) (h1 : Ev prog w hb sc d (σ.bx β1) b x β2) : Ev prog w hb sc d σ (.IfExp t b o pos) x β2 := Ev.ite ht (fun _ => h1) fun h => by rw [hc] at h; cases h
theorem Ev.ite_f {t b o : Expr} {pos : Pos} {c : Bool} {x : MV} (ht : IsT prog w hb sc d σ t c β1) (hc : c = false) (h1 : Ev prog w hb sc d (σ.bx β1) o x β2) : Ev prog w hb sc d σ (.IfExp t b o pos) x β2 := Ev.ite ht (fun h => by rw [hc] at h; cases h) fun _ => h1
theorem Ex1.if_t {t : Expr} {b o : List Stmt} {pos : Pos} {c : Bool} {out : Out} (ht : IsT prog w hb sc d σ t c β1) (hc : c = true) (h1 : Ex prog w hb sc d (σ.bx β1) b out) : Ex1 prog w hb sc d σ (.If t b o pos) out := Ex1.if_ ht (fun _ => h1) fun h => by rw [hc] at h; cases h
theorem Ex1.if_f {t : Expr} {b o : List Stmt} {pos : Pos} {c : Bool} {out : Out} (ht : IsT prog w hb sc d σ t c β1) (hc : c = false) (h1 : Ex prog w hb sc d (σ.bx β1) o out) : Ex1 prog w hb sc d σ (.If t b o pos) out := Ex1.if_ ht (fun h => by rw [hc] at h; cases h) fun _ => h1
theorem Ev.fn2 {f : Str} {p pos : Pos} {e : Expr} {es : List Expr} {xs : List MV} {x : MV} (hf : isGlob sc f = true) (hs : notStar e = true) (h1 : Evs prog w hb sc d σ (e :: es) xs β1) (h2 : Fn prog w hb d' f xs β1 x β2) (hd : d' ≤ d) : Ev prog w hb sc d σ (.Call (.Name f p) (e :: es) [] pos) x β2 := Ev.fn h2 hf hs h1 hd
theorem Ev.b_len {p pos : Pos} {e : Expr} {xs : List MV} (hg : BuiltIs hb "len" (.builtin "len")) (hf : isGlob sc "len" = true) (hs : notStar e = true) (h1 : Ev prog w hb sc d σ e (.list xs) β1) (hl : xs.length ≤ 16777216) : Ev prog w hb sc d σ (.Call (.Name "len" p) [e] [] pos) (.int xs.length) β1 :=
  Ev.app_b hf hg (by simp [hs]) (.cons h1 .nil hs) (FnC.len hl) (Nat.zero_le _)
theorem Ev.b_abs {p pos : Pos} {e : Expr} {a : Int} (hg : BuiltIs hb "abs" (.builtin "abs")) (hf : isGlob sc "abs" = true) (hs : notStar e = true) (h1 : Ev prog w hb sc d σ e (.int a) β1) : Ev prog w hb sc d σ (.Call (.Name "abs" p) [e] [] pos) (.int (if a < 0 then -a else a)) β1 :=
  Ev.app_b hf hg (by simp [hs]) (.cons h1 .nil hs) FnC.abs (Nat.zero_le _)
theorem Ev.b_max {p pos : Pos} {e1 e2 : Expr} {a b : Int} (hg : BuiltIs hb "max" (.builtin "max")) (hf : isGlob sc "max" = true) (hs1 : notStar e1 = true) (hs2 : notStar e2 = true) (h1 : Ev prog w hb sc d σ e1 (.int a) β1) (h2 : Ev prog w hb sc d (σ.bx β1) e2 (.int b) β2) :
    Ev prog w hb sc d σ (.Call (.Name "max" p) [e1, e2] [] pos) (.int (if b > a then b else a)) β2 :=
  Ev.app_b hf hg (by simp [hs1, hs2]) (.cons h1 (.cons h2 .nil hs2) hs1) FnC.max (Nat.zero_le _)
end

end Mine
end
section
open PySem PySem.Calls PyProof.Rows PySem.W
set_option Elab.async false
set_option maxRecDepth 100000
set_option linter.unusedVariables false
namespace Mine
noncomputable section
def fdefs : List (Str × Arguments × List Stmt × Scope) := PySem.Challenge.pw_tk0036_01.main.body.filterMap fun
  | .FunctionDef name args body _ _ _ scope _ _ _ => some (name, args, body, scope)
  | _ => none
def fdn (i : Nat) : Str × Arguments × List Stmt × Scope := fdefs.getD i default
def nmF (i : Nat) : Str := (fdn i).1
def paF (i : Nat) : Arguments := (fdn i).2.1
def boF (i : Nat) : List Stmt := (fdn i).2.2.1
def scF (i : Nat) : Scope := (fdn i).2.2.2
end

structure Bs (hb : Heap) : Prop where
  lim : hb.NoLimit
  defs : ∀ i, i < 33 → DefAt hb (nmF i) (paF i) (boF i) (scF i)
  len : BuiltIs hb "len" (.builtin "len")
  range : BuiltIs hb "range" (.type "range")
  list : BuiltIs hb "list" (.type "list")
  enumerate : BuiltIs hb "enumerate" (.type "enumerate")
  max : BuiltIs hb "max" (.builtin "max")
  abs : BuiltIs hb "abs" (.builtin "abs")
theorem Bs.at {hb : Heap} (B : Bs hb) (i : Nat) (h : i < 33) (n : Str) (e : nmF i = n) : DefAt hb n (paF i) (boF i) (scF i) := e ▸ B.defs i h
end Mine
end
section
open PySem PySem.Calls PyProof.Rows PySem.W
set_option Elab.async false
set_option maxRecDepth 100000
set_option linter.unusedVariables false
namespace Mine
section
variable {prog : Program} {w : World} {hb : Heap} {sc : Scope} {d d' : Nat} {σ σ' : Sg} {β β1 β2 β3 β' β'' : Bx}
theorem turn_of {I : Prop} {t : Expr} {it : Itm} {b : List Stmt} {o : Out} (h1 : Asg prog w hb sc d σ t it σ') (h2 : Ex prog w hb sc d σ' b o) (h3 : I) : ∃ σ', Asg prog w hb sc d σ t it σ' ∧ Ex prog w hb sc d σ' b o ∧ I := ⟨σ', h1, h2, h3⟩
theorem Ex.one {s : Stmt} {o : Out} (h : Ex1 prog w hb sc d σ s o) : Ex prog w hb sc d σ [s] o := by
  cases o with
  | nxt σ' => exact .cons h .nil
  | ret x β => exact .ret h
theorem Ex1.assign_tup2 {x1 x2 : Str} {p1 p2 : Pos} {kk : Nat} {tpos pos : Pos} {e : Expr} {y1 y2 : MV} {vs1 vs' : List (Str × Slot)} (h1 : Ev prog w hb sc d σ e (.tup [y1, y2]) β1)
    (hx1 : isSto sc x1 = true) (hx2 : isSto sc x2 = true) (q1 : Put σ.vs x2 (.val y2) vs1) (q2 : Put vs1 x1 (.val y1) vs')
    (hs : ∀ env, swapsWithSole [.Tuple [.Name x1 p1, .Name x2 p2] kk tpos] e pos.line env = pure false) (hw : ∀ env : Env, env.scope = sc → swappedStores [.Tuple [.Name x1 p1, .Name x2 p2] kk tpos] e env = pure (some [x1, x2])) :
    Ex1 prog w hb sc d σ (.Assign [.Tuple [.Name x1 p1, .Name x2 p2] kk tpos] e pos) (.nxt ⟨vs', β1⟩) :=
  Ex1.assign_tup (names := [x1, x2]) h1 (by simp [hx1, hx2]) rfl (.cons q1 (.cons q2 .nil)) hs hw
theorem Ex1.assign_tup3 {x1 x2 x3 : Str} {p1 p2 p3 : Pos} {kk : Nat} {tpos pos : Pos} {e : Expr} {y1 y2 y3 : MV} {vs1 vs2 vs' : List (Str × Slot)} (h1 : Ev prog w hb sc d σ e (.tup [y1, y2, y3]) β1)
    (hx1 : isSto sc x1 = true) (hx2 : isSto sc x2 = true) (hx3 : isSto sc x3 = true) (q1 : Put σ.vs x3 (.val y3) vs1) (q2 : Put vs1 x2 (.val y2) vs2) (q3 : Put vs2 x1 (.val y1) vs')
    (hs : ∀ env, swapsWithSole [.Tuple [.Name x1 p1, .Name x2 p2, .Name x3 p3] kk tpos] e pos.line env = pure false) (hw : ∀ env : Env, env.scope = sc → swappedStores [.Tuple [.Name x1 p1, .Name x2 p2, .Name x3 p3] kk tpos] e env = pure (some [x1, x2, x3])) :
    Ex1 prog w hb sc d σ (.Assign [.Tuple [.Name x1 p1, .Name x2 p2, .Name x3 p3] kk tpos] e pos) (.nxt ⟨vs', β1⟩) :=
  Ex1.assign_tup (names := [x1, x2, x3]) h1 (by simp [hx1, hx2, hx3]) rfl (.cons q1 (.cons q2 (.cons q3 .nil))) hs hw
end
end Mine
end
section
open PySem PySem.Calls PyProof.Rows PySem.W
set_option Elab.async false
set_option maxRecDepth 100000
set_option linter.unusedVariables false
namespace Mine
section
variable {prog : Program} {w : World} {hb : Heap} {sc : Scope} {d d' : Nat} {σ σ' : Sg} {β β1 β2 β3 β' β'' : Bx}
theorem IsT.and2 {e1 e2 : Expr} {pos : Pos} {c1 c2 : Bool} (h1 : IsT prog w hb sc d σ e1 c1 β1) (h2 : c1 = true → IsT prog w hb sc d (σ.bx β1) e2 c2 β1) : IsT prog w hb sc d σ (.BoolOp .And [e1, e2] pos) (c1 && c2) β1 := by
  refine IsT.all (IsAll.and h1 (fun h => ⟨by rw [h]; rfl, rfl⟩) fun h => IsAll.and (h2 h) (fun h' => ⟨by rw [h']; simp, rfl⟩) fun h' => ?_)
  rw [h, h']
  exact IsAll.nil_and
theorem IsT.or2 {e1 e2 : Expr} {pos : Pos} {c1 c2 : Bool} (h1 : IsT prog w hb sc d σ e1 c1 β1) (h2 : c1 = false → IsT prog w hb sc d (σ.bx β1) e2 c2 β1) : IsT prog w hb sc d σ (.BoolOp .Or [e1, e2] pos) (c1 || c2) β1 := by
  refine IsT.all (IsAll.or h1 (fun h => ⟨by rw [h]; rfl, rfl⟩) fun h => IsAll.or (h2 h) (fun h' => ⟨by rw [h']; simp, rfl⟩) fun h' => ?_)
  rw [h, h']
  exact IsAll.nil_or
theorem Ev.b_len_ints {p pos : Pos} {e : Expr} {ns : List Int} (hg : BuiltIs hb "len" (.builtin "len")) (hf : isGlob sc "len" = true) (hs : notStar e = true) (h1 : Ev prog w hb sc d σ e (.list (ns.map .int)) β1) (hl : ns.length ≤ 16777216) : Ev prog w hb sc d σ (.Call (.Name "len" p) [e] [] pos) (.int ns.length) β1 := by
  have := Ev.b_len (p := p) (pos := pos) hg hf hs h1 (by rw [List.length_map]; exact hl)
  rwa [List.length_map] at this
end
end Mine
end
section
open PySem PySem.Calls PyProof.Rows PySem.W
set_option Elab.async false
set_option maxRecDepth 100000
set_option linter.unusedVariables false
namespace Mine
section
variable {prog : Program} {w : World} {hb : Heap} {sc : Scope} {d d' : Nat} {σ σ' : Sg} {β β1 β2 β3 β' β'' : Bx}
theorem Put.had {vs x sl vs'} (p : Put vs x sl vs') : ∀ {y t}, Get vs' y t → ∃ u, Get vs y u := by
  induction p with
  | here =>
    intro y t g
    cases g with
    | here => exact ⟨_, .here⟩
    | there h g => exact ⟨_, .there h g⟩
  | there h p ih =>
    intro y t g
    cases g with
    | here => exact ⟨_, .here⟩
    | there h g => obtain ⟨u, g'⟩ := ih g; exact ⟨u, .there h g'⟩
theorem St.lower {C : Ctx} {W : Wd} {s : Shared} {x : Str} {q0 : Bool} {xs : List MV} {vs' : List (Str × Slot)} (S : St hb C W σ s) (g : Get σ.vs x (.own q0 xs)) (p : Put σ.vs x (.own false xs) vs') : St hb C W ⟨vs', σ.box⟩ s := by
  obtain ⟨m, cm, F⟩ := S.frm
  refine ⟨S.ok, S.same, S.keep, S.le, S.new, ⟨m, cm, F.ns, F.cell, ?_, ?_, ?_⟩, S.privL, S.privC, S.apart, S.lbe⟩
  · intro y sl g'
    rcases p.get g' with ⟨rfl, rfl⟩ | ⟨_, g'⟩
    · obtain ⟨l, o, vs, n, e, o1, o2, o3⟩ := F.var _ _ g
      exact ⟨l, o, vs, n, e, o1, ⟨o2.1, fun h => by cases h⟩, o3⟩
    · exact F.var y sl g'
  · intro y sl g' hn
    obtain ⟨u, g'⟩ := p.had g'
    exact F.has y u g' hn
  · intro a b p1 q1 xs1 ys1 l g1 g2
    have f : ∀ {y r zs}, Get vs' y (.own r zs) → ∃ r zs, Get σ.vs y (.own r zs) := by
      intro y r zs g'
      rcases p.get g' with ⟨rfl, h⟩ | ⟨_, g'⟩
      · exact ⟨_, _, g⟩
      · exact ⟨_, _, g'⟩
    obtain ⟨_, _, g1⟩ := f g1
    obtain ⟨_, _, g2⟩ := f g2
    exact F.uniq a b _ _ _ _ l g1 g2
theorem Ex.lower {x : Str} {q0 : Bool} {xs : List MV} {vs' : List (Str × Slot)} {ss : List Stmt} {o : Out} (g : Get σ.vs x (.own q0 xs)) (p : Put σ.vs x (.own false xs) vs') (h : Ex prog w hb sc d ⟨vs', σ.box⟩ ss o) : Ex prog w hb sc d σ ss o :=
  fun A C W s Q R K S k => h A C W s Q R K (S.lower g p) k
theorem rg01 (n : Nat) : rgInts 0 1 n = (List.range n).map fun (i : Nat) => (i : Int) := by
  unfold rgInts; congr 1; funext i; omega
theorem foldl_snoc {γ δ : Type} (f : γ → δ) (l : List γ) (a : List δ) : l.foldl (fun acc x => acc ++ [f x]) a = a ++ l.map f := by
  induction l generalizing a with
  | nil => simp
  | cons x l ih => simp [ih]
theorem Iter.cast {t i : Expr} {its its' : List Itm} (h : Iter prog w hb sc d σ t i its β) (e : its' = its) : Iter prog w hb sc d σ t i its' β := e ▸ h
theorem Ev.cast {e : Expr} {y y' : MV} (h : Ev prog w hb sc d σ e y β) (q : y = y') : Ev prog w hb sc d σ e y' β := q ▸ h
theorem Fn.cast {f : Str} {xs : List MV} {y y' : MV} (h : Fn prog w hb d f xs β y β') (q : y = y') : Fn prog w hb d f xs β y' β' := q ▸ h
theorem rg_list (n : Nat) : ((List.range n).map fun (i : Nat) => Itm.one (.int i)) = (rgInts 0 1 n).map fun i => .one (.int i) := by
  rw [rg01, List.map_map]; rfl
theorem ints_get {a : List Int} {i : Nat} {k : Int} (h : i < a.length) (e : k = i) : (a.map MV.int)[k.toNat]? = some (.int (a.getD i 0)) := by
  subst e
  rw [List.getElem?_map, Int.toNat_natCast, List.getElem?_eq_getElem h, List.getD_eq_getElem?_getD, List.getElem?_eq_getElem h]; rfl
end
end Mine
end
section
open PySem PySem.Calls PyProof.Rows PySem.W
set_option Elab.async false
set_option maxRecDepth 100000
set_option linter.unusedVariables false
namespace Mine
theorem Pick.uptoI {k : Int} (h : 0 ≤ k) (xs : List MV) : Pick none (some k) none xs (xs.take k.toNat) := by
  have := Pick.upto k.toNat xs
  rwa [Int.toNat_of_nonneg h] at this
theorem rg_down (n : Nat) : ((List.range n).reverse.map fun (i : Nat) => Itm.one (.int i)) = (rgInts ((n : Int) - 1) (-1) n).map fun i => .one (.int i) := by
  apply List.ext_getElem
  · simp [rgInts]
  · intro i h1 h2
    simp only [List.length_map, List.length_reverse, List.length_range] at h1
    simp only [rgInts, List.getElem_map, List.getElem_reverse, List.getElem_range, List.length_range, Itm.one.injEq, MV.int.injEq]
    omega
end Mine
end
section
open PySem PySem.Calls PyProof.Rows PySem.W
set_option Elab.async false
set_option maxRecDepth 100000
set_option linter.unusedVariables false
namespace Mine

/-! ## comprehensions -/
structure Near (X : List Addr) (W : Wd) (s : Shared) (W' : Wd) (s' : Shared) : Prop where
  same : ∃ h tk, s' = { s with heap := h, toks := tk }
  ext : ∀ b o, b ∉ X → W.lb ≠ some b → s.heap.get? b = some o → s'.heap.get? b = some o
  live : ∀ b o, s.heap.get? b = some o → ∃ o', s'.heap.get? b = some o'
  le : ∀ b o, W.G b = some o → W'.G b = some o
  lb : W'.lb = W.lb
  fresh : ∀ b o, W'.G b = some o → W.G b = some o ∨ s.heap.get? b = none
theorem Near.refl {X : List Addr} {W : Wd} {s : Shared} : Near X W s W s := ⟨⟨_, _, rfl⟩, fun _ _ _ _ e => e, fun _ o e => ⟨o, e⟩, fun _ _ e => e, rfl, fun _ _ e => .inl e⟩
theorem Near.trans {X : List Addr} {W W' W'' : Wd} {s s' s'' : Shared} (x : Near X W s W' s') (y : Near X W' s' W'' s'') : Near X W s W'' s'' where
  same := by
    obtain ⟨h, tk, rfl⟩ := x.same
    obtain ⟨h', tk', rfl⟩ := y.same
    exact ⟨h', tk', rfl⟩
  ext := fun b o q l e => y.ext b o q (by rw [x.lb]; exact l) (x.ext b o q l e)
  live := fun b o e => by
    obtain ⟨o', e'⟩ := x.live b o e
    exact y.live b o' e'
  le := fun b o e => y.le b o (x.le b o e)
  lb := y.lb.trans x.lb
  fresh := fun b o e => by
    rcases y.fresh b o e with h | h
    · exact x.fresh b o h
    · refine .inr ?_
      cases q : s.heap.get? b with
      | none => rfl
      | some o' =>
        obtain ⟨o2, e2⟩ := x.live b o' q
        rw [h] at e2; cases e2
theorem Near.mono {X X' : List Addr} {W W' : Wd} {s s' : Shared} (x : Near X W s W' s') (h : ∀ b ∈ X, b ∈ X') : Near X' W s W' s' :=
  ⟨x.same, fun b o q => x.ext b o fun z => q (h b z), x.live, x.le, x.lb, x.fresh⟩
theorem Near.of_step {X : List Addr} {hb : Heap} {W W' : Wd} {s s' : Shared} {β : Bx} (x : Step hb W s W' s' β) : Near X W s W' s' where
  same := x.same
  ext := fun b o _ l e => x.ext b o e l
  live := fun b o e => by
    by_cases l : W.lb = some b
    · obtain ⟨_, _, o', _, _, _, h, _⟩ := x.box b (by rw [x.lb]; exact l)
      exact ⟨o', h⟩
    · exact ⟨o, x.ext b o e l⟩
  le := x.le
  lb := x.lb
  fresh := x.fresh
theorem Near.heap {X : List Addr} {W : Wd} {s : Shared} {h' : Heap} {tk : Nat} (hk : ∀ b o, b ∉ X → s.heap.get? b = some o → h'.get? b = some o) (hl : ∀ b ∈ X, (∃ o, s.heap.get? b = some o) → ∃ o, h'.get? b = some o) : Near X W s W { s with heap := h', toks := tk } where
  same := ⟨_, _, rfl⟩
  ext := fun b o q _ e => hk b o q e
  live := fun b o e => by
    by_cases q : b ∈ X
    · exact hl b q ⟨o, e⟩
    · exact ⟨o, hk b o q e⟩
  le := fun _ _ e => e
  lb := rfl
  fresh := fun _ _ e => .inl e
theorem Near.step {X : List Addr} {hb : Heap} {W W' : Wd} {s s' : Shared} {β : Bx} (x : Near X W s W' s') (k : Okay hb W' s' β) (hX : ∀ b ∈ X, s.heap.get? b = none) : Step hb W s W' s' β where
  same := x.same
  ext := fun b o e l => x.ext b o (fun q => by rw [hX b q] at e; cases e) l e
  le := x.le
  lb := x.lb
  fresh := x.fresh
  frz := k.frz
  box := k.box

structure CSt (hb : Heap) (C : Ctx) (W : Wd) (σ : Sg) (D : Addr) (xs : List MV) (s : Shared) : Prop where
  st : St hb C W σ s
  acc : ∃ o vs n, s.heap.get? D = some o ∧ LsObj true o ∧ o.data = .seq vs n ∧ RVs W vs.toList xs
  p : Priv hb C W D
  offL : D ≠ C.env.locals
  offC : ∀ y c, C.env.cells.lookup y = some c → D ≠ c
  nown : ∀ y p zs, ¬ Get σ.vs y (.own p zs)
theorem CSt.step {hb : Heap} {C : Ctx} {W W' : Wd} {σ : Sg} {D : Addr} {xs : List MV} {s s' : Shared} {β' : Bx} (S : CSt hb C W σ D xs s) (x : Step hb W s W' s' β') : CSt hb C W' { σ with box := β' } D xs s' := by
  obtain ⟨o, vs, n, h1, h2, h3, h4⟩ := S.acc
  exact ⟨S.st.step x, ⟨o, vs, n, x.ext D o h1 S.p.l, h2, h3, h4.mono x.le x.lb⟩, S.p.step h1 x, S.offL, S.offC, S.nown⟩
theorem CSt.moved {hb : Heap} {C : Ctx} {W : Wd} {σ : Sg} {D : Addr} {xs : List MV} {s : Shared} {wr : List Addr} {h' : Heap} {tk : Nat} (S : CSt hb C W σ D xs s)
    (hwb : ∀ b ∈ wr, Priv hb C W b) (hL : C.env.locals ∉ wr) (hC : ∀ y c, C.env.cells.lookup y = some c → c ∉ wr) (hD : D ∉ wr) (hk : ∀ b o, b ∉ wr → s.heap.get? b = some o → h'.get? b = some o) :
    CSt hb C W σ D xs { s with heap := h', toks := tk } := by
  obtain ⟨m, cm, F⟩ := S.st.frm
  obtain ⟨S', _⟩ := S.st.moved (tk := tk) F (fun b q => (hwb b q).b) (fun b q => by rw [← S.st.lbe]; exact (hwb b q).l) (fun b q => (hwb b q).g) (fun b q => (hwb b q).k) hL hC (fun y p zs l g => absurd g (S.nown y p zs)) hk
  obtain ⟨o, vs, n, h1, h2⟩ := S.acc
  exact ⟨S', ⟨o, vs, n, hk D o hD h1, h2⟩, S.p, S.offL, S.offC, S.nown⟩

section
variable {prog : Program} {w : World} {hb : Heap} {sc : Scope} {d d' : Nat} {σ σ' σ0 σ1 : Sg} {β β1 β2 β3 β' β'' : Bx}

def isLoc (sc : Scope) (x : Str) : Bool := sc.names.lookup x == some .local
/-- a store into names of the frame's own -/
def AsgL (prog : Program) (w : World) (hb : Heap) (sc : Scope) (d : Nat) (σ : Sg) (target : Expr) (it : Itm) (σ' : Sg) : Prop :=
  ∀ (A : Around) (C : Ctx) (W : Wd) (s : Shared) (v : Value) (Q : Unit → Shared → Prop), Room d A → CtxOk sc C → St hb C W σ s → ItmRel W s.heap v it →
    (∀ h' tk, St hb C W σ' { s with heap := h', toks := tk } → (∀ b o, b ≠ C.env.locals → s.heap.get? b = some o → h'.get? b = some o) → Q () { s with heap := h', toks := tk }) → wpAny (model prog w) A (assign target C.env v) Q (fun _ _ => False) s
theorem wp_sto_l {A : Around} {C : Ctx} {W : Wd} {s : Shared} {x : Str} {v : Value} {y : MV} {vs' : List (Str × Slot)} {Q : Unit → Shared → Prop} {E : Value → Shared → Prop} (K : CtxOk sc C) (S : St hb C W σ s) (hx : isLoc sc x = true) (p : Put σ.vs x (.val y) vs') (r : RV W v y)
    (hQ : ∀ h' tk, St hb C W ⟨vs', σ.box⟩ { s with heap := h', toks := tk } → (∀ b o, b ≠ C.env.locals → s.heap.get? b = some o → h'.get? b = some o) → Q () { s with heap := h', toks := tk }) : wpAny (model prog w) A (storeName C.env x v) Q E s := by
  obtain ⟨m, cm, F⟩ := S.frm
  have hl : C.env.kindOf x = some .local := by unfold Env.kindOf; rw [K.scope]; simpa [isLoc] using hx
  refine wpAny_storeName_local hl F.ns (fun h' hn hs => hQ h' _ ?_ fun b o q e => hs.extBut b o q e) (by rw [kindC K]; rfl)
  have hv : ∀ y, valOf C.env (fun z => if z = x then some v else m z) cm y = if y = x then some v else valOf C.env m cm y := by
    intro y
    by_cases q : y = x
    · subst q; simp [valOf, hl]
    · simp [valOf, q]
  refine S.but S.privL hs (σ' := ⟨vs', σ.box⟩) rfl (m' := fun z => if z = x then some v else m z) (cm' := cm) ⟨hn, ?_, ?_, ?_, ?_⟩
  · intro y c e
    exact (F.cell y c e).sameBut hs (S.privC y c e).2
  · intro y sl g
    rw [hv]
    rcases p.get g with ⟨rfl, rfl⟩ | ⟨q, g'⟩
    · rw [if_pos rfl]
      exact ⟨v, rfl, r⟩
    · rw [if_neg q]
      exact (F.var y sl g').but hs fun q xs l e1 e2 => by subst e1; obtain ⟨l', _, _, _, e, _, _, _, _, _, h6, _⟩ := F.var y _ g'; rw [e] at e2; cases e2; exact h6
  · intro y sl g hn'
    rcases p.get g with ⟨rfl, rfl⟩ | ⟨q, g'⟩
    · exact absurd hl hn'
    · exact F.has y sl g' hn'
  · intro y z p1 p2 ys zs l g1 g2 e1 e2
    rw [hv] at e1 e2
    rcases p.get g1 with ⟨rfl, q1⟩ | ⟨q1, g1'⟩
    · cases q1
    · rcases p.get g2 with ⟨rfl, q2⟩ | ⟨q2, g2'⟩
      · cases q2
      · rw [if_neg q1] at e1; rw [if_neg q2] at e2
        exact F.uniq y z _ _ ys zs l g1' g2' e1 e2
theorem AsgL.name {x : Str} {pos : Pos} {y : MV} {vs' : List (Str × Slot)} (hx : isLoc sc x = true) (p : Put σ.vs x (.val y) vs') : AsgL prog w hb sc d σ (.Name x pos) (.one y) ⟨vs', σ.box⟩ := fun A C W s v Q R K S r h =>
  assign_Name (wp_sto_l K S hx p r h)
theorem AsgL.pair {x1 x2 : Str} {p1 p2 pos : Pos} {k : Nat} {y1 y2 : MV} {vs1 vs' : List (Str × Slot)} (hx1 : isLoc sc x1 = true) (hx2 : isLoc sc x2 = true) (q1 : Put σ.vs x1 (.val y1) vs1) (q2 : Put vs1 x2 (.val y2) vs') :
    AsgL prog w hb sc d σ (.Tuple [.Name x1 p1, .Name x2 p2] k pos) (.two y1 y2) ⟨vs', σ.box⟩ := fun A C W s v Q R K S r h => by
  obtain ⟨T, a, b, rfl, hT, r1, r2⟩ := r
  rw [assign_Tuple]
  refine wpAny_bind (wpAny_standAt ?_)
  unfold unpack
  refine wpAny_bind (wpAny_holding ?_)
  refine wpAny_mono (Q := fun vals s' => vals = [a, b] ∧ ∃ h' tk, s' = { s with heap := h', toks := tk } ∧ (∀ b o, s.heap.get? b = some o → h'.get? b = some o) ∧ St hb C W σ s') (unpackItems_tuple (items := #[a, b]) R.handled hT fun h' he => ⟨rfl, h', s.toks, rfl, fun b o e => he b o (Nat.ne_of_lt (Heap.lt_size e)) e, S.step (Step.pushy (tk := s.toks) S.ok he)⟩) (fun vals s1 hh => ?_) fun _ _ x => x
  obtain ⟨rfl, h1, tk1, rfl, hk1, S1⟩ := hh
  show wpAny _ _ (do holding [a, b].tail (assign (.Name x1 p1) C.env a); (do holding ([] : List Value) (assign (.Name x2 p2) C.env b); pure ())) _ _ _
  exact wpAny_bind (wpAny_holding (assign_Name (wp_sto_l K S1 hx1 q1 r1 fun h2 tk2 S2 hk2 => wpAny_bind (wpAny_holding (assign_Name (wp_sto_l K S2 hx2 q2 r2 fun h3 tk3 S3 hk3 => wpAny_pure (h h3 tk3 S3 fun b o q e => hk3 b o q (hk2 b o q (hk1 b o e)))))))))

/-- what a turn does with the list -/
def Emit (prog : Program) (w : World) (hb : Heap) (sc : Scope) (d : Nat) (emit : Value → Env → Sem Unit) (σ : Sg) (xs xs' : List MV) : Prop :=
  ∀ (A : Around) (C : Ctx) (W : Wd) (s : Shared) (D : Addr) (Q : Unit → Shared → Prop), Room d A → CtxOk sc C → (∀ b, C.K b = none) → CSt hb C W σ D xs s →
    (∀ W' s', CSt hb C W' σ D xs' s' → Near [D, C.env.locals] W s W' s' → Q () s') → wpAny (model prog w) A (emit (.ref D) C.env) Q (fun _ _ => False) s
def emE (elt : Expr) (acc : Value) (env : Env) : Sem Unit := do let _ ← call (.builtin "list.append") [acc, ← eval elt env]
theorem Emit.elt {elt : Expr} {y : MV} {xs : List MV} (h : Ev prog w hb sc d σ elt y σ.box) (hl : xs.length ≤ 16777216) : Emit prog w hb sc d (emE elt) σ xs (xs ++ [y]) := fun A C W s D Q R K hK S k => by
  show wpAny _ _ (eval elt C.env >>= fun x => call (.builtin "list.append") [.ref D, x] >>= fun _ => pure ()) _ _ _
  refine wpAny_bind (h A C W s _ R K S.st fun W1 s1 v t r => ?_)
  have S1 := S.step t
  obtain ⟨o, vs, n, h1, h2, h3, h4⟩ := S1.acc
  have hsz : vs.size ≤ sizeLine := by
    have := h4.length
    rw [Array.length_toList] at this
    rw [this]; exact hl
  refine wpAny_bind (list_append_plainL (its := vs) ⟨o, n, h1, h2.1, h2.2 rfl, h3⟩ (fun h' hp hs => wpAny_pure ?_) hsz)
  obtain ⟨o', n', g1, g2, g3, g4⟩ := hp
  obtain ⟨m, cm, F⟩ := S1.st.frm
  have hk : ∀ b o, b ∉ [D] → s1.heap.get? b = some o → h'.get? b = some o := fun b o q e => hs.extBut b o (fun z => q (List.mem_singleton.mpr z)) e
  obtain ⟨S2, _⟩ := S1.st.moved (wr := [D]) (tk := s1.toks) F (fun b q => by cases List.mem_singleton.mp q; exact S1.p.b) (fun b q => by cases List.mem_singleton.mp q; rw [← S1.st.lbe]; exact S1.p.l) (fun b q => by cases List.mem_singleton.mp q; exact S1.p.g) (fun b q => hK b)
    (fun q => S1.offL (List.mem_singleton.mp q).symm) (fun y c e q => S1.offC y c e (List.mem_singleton.mp q).symm) (fun y p zs l g => absurd g (S1.nown y p zs)) hk
  refine k W1 _ ⟨S2, ⟨o', vs.push v, n', g1, ⟨g2, fun _ => g3⟩, g4, ?_⟩, S1.p, S1.offL, S1.offC, S1.nown⟩ ((Near.of_step t).trans (Near.heap (fun b o q e => hk b o (fun z => q (by cases List.mem_singleton.mp z; exact List.mem_cons_self ..)) e) fun b q ⟨o2, e⟩ => ?_))
  · rw [Array.toList_push]
    exact h4.append (.cons r .nil)
  · by_cases z : b = D
    · subst z; exact ⟨_, g1⟩
    · exact ⟨o2, hs.extBut b o2 z e⟩
end
end Mine
end
section
open PySem PySem.Calls PyProof.Rows PySem.W
set_option Elab.async false
set_option maxRecDepth 100000
set_option linter.unusedVariables false
namespace Mine
section
variable {prog : Program} {w : World} {hb : Heap} {sc : Scope} {d d' : Nat} {σ σ' σ0 σ1 : Sg} {β β1 β2 β3 β' β'' : Bx}

def Tst (prog : Program) (w : World) (hb : Heap) (sc : Scope) (d : Nat) (σ : Sg) (ifs : List Expr) (b : Bool) : Prop := (ifs = [] ∧ b = true) ∨ ∃ c, ifs = [c] ∧ IsT prog w hb sc d σ c b σ.box
theorem Tst.nil : Tst prog w hb sc d σ [] true := .inl ⟨rfl, rfl⟩
theorem Tst.one {c : Expr} {b : Bool} (h : IsT prog w hb sc d σ c b σ.box) : Tst prog w hb sc d σ [c] b := .inr ⟨c, rfl, h⟩

/-- the form of a turn -/
def TurnIs (e : Expr) (depth : Nat) (ip : Pos) (target : Expr) (ifs : List Expr) (emit : Value → Env → Sem Unit) : Prop := ∀ (it acc : Value) (env : Env), compTurn e depth it acc env = (do
  standAt ip
  match ← pyNext it with
  | none => pure (.done .next)
  | some v =>
    letOwnedTupleGo target it v
    assign target env v
    let mut ok := true
    for c in ifs do
      if ok then ok ← isTrue c env (eval c env)
    if ok then
      emit acc env
    again (.compLoop e depth it acc env))

theorem CSt.loc {C : Ctx} {W : Wd} {D : Addr} {xs : List MV} {s : Shared} {h' : Heap} {tk : Nat} (S : CSt hb C W σ0 D xs s) (S' : St hb C W σ1 { s with heap := h', toks := tk }) (hn : ∀ y p zs, ¬ Get σ1.vs y (.own p zs)) (hk : ∀ b o, b ≠ C.env.locals → s.heap.get? b = some o → h'.get? b = some o) :
    CSt hb C W σ1 D xs { s with heap := h', toks := tk } := by
  obtain ⟨o, vs, n, h1, h2⟩ := S.acc
  exact ⟨S', ⟨o, vs, n, hk D o S.offL h1, h2⟩, S.p, S.offL, S.offC, hn⟩

/-- the iterator is done, and none of what stood before is it -/
theorem Near.close {X0 X wr : List Addr} {W W' : Wd} {s s' : Shared} {h2 : Heap} {tk2 : Nat} (x : Near X0 W s W' s') (hX : ∀ b ∈ X0, b ∈ X ∨ b ∈ wr) (hw : ∀ b ∈ wr, s.heap.get? b = none) (hk : ∀ b o, b ∉ wr → s'.heap.get? b = some o → h2.get? b = some o) :
    Near X W s W' { s' with heap := h2, toks := tk2 } where
  same := by
    obtain ⟨h, tk, rfl⟩ := x.same
    exact ⟨_, _, rfl⟩
  ext := fun b o q l e => by
    have hb' : b ∉ wr := fun z => by rw [hw b z] at e; cases e
    exact hk b o hb' (x.ext b o (fun z => (hX b z).elim q hb') l e)
  live := fun b o e => by
    have hb' : b ∉ wr := fun z => by rw [hw b z] at e; cases e
    obtain ⟨o', e'⟩ := x.live b o e
    exact ⟨o', hk b o' hb' e'⟩
  le := x.le
  lb := x.lb
  fresh := x.fresh

theorem comp_loop {elt : Expr} {gens : List Comprehension} {cscope : Scope} {cpos : Pos} {target : Expr} {depth : Nat} {ip : Pos} {ifs : List Expr} {emit : Value → Env → Sem Unit} {its : List Itm} {A : Around} {C : Ctx} {W1 : Wd} {s1 : Shared} {I D : Addr} {fp wr : List Addr} {P Md : Nat → Value → Heap → Prop} {Sx : Nat → Heap → Prop} {RR : Result → Shared → Prop}
    (heq : TurnIs (.ListComp elt gens cscope cpos) depth ip target ifs emit) (xs : Nat → List MV) (R : Room d A) (K : CtxOk sc C) (hK : ∀ b, C.K b = none) (T : KTurns prog w A target I fp wr its.length P Md Sx)
    (hwr : ∀ b ∈ wr, Priv hb C W1 b ∧ b ≠ C.env.locals ∧ b ≠ D ∧ ∀ y c, C.env.cells.lookup y = some c → c ≠ b)
    (hfp : ∀ b ∈ fp, b ≠ D ∧ b ≠ C.env.locals ∧ C.lb ≠ some b)
    (hlive : ∀ i h, Sx i h → ∀ b ∈ wr, ∃ o, h.get? b = some o) (hitm : ∀ i v h x, its[i]? = some x → P i v h → ItmRel W1 h v x)
    (S1 : CSt hb C W1 σ0 D (xs 0) s1) (st0 : Sx 0 s1.heap)
    (turn : ∀ i x, its[i]? = some x → ∃ σ1 b, σ1.box = σ0.box ∧ (∀ y p zs, ¬ Get σ1.vs y (.own p zs)) ∧ AsgL prog w hb sc d σ0 target x σ1 ∧ Tst prog w hb sc d σ1 ifs b ∧ (b = true → Emit prog w hb sc d emit σ1 (xs i) (xs (i + 1))) ∧ (b = false → xs (i + 1) = xs i) ∧ Wk σ1.vs σ0.vs)
    (hR : ∀ W' s' h2 tk2, CSt hb C W' σ0 D (xs its.length) { s' with heap := h2, toks := tk2 } → Near (D :: C.env.locals :: wr) W1 s1 W' s' → (∀ b o, b ∉ wr → s'.heap.get? b = some o → h2.get? b = some o) → RR (.ok .next) { s' with heap := h2, toks := tk2 }) :
    codeAny (model prog w) A (.compLoop (.ListComp elt gens cscope cpos) depth (.ref I) (.ref D) C.env) RR s1 := by
  refine codeAny_loop rfl (fun j s' => ∃ i W', j = its.length + 1 - i ∧ i ≤ its.length ∧ CSt hb C W' σ0 D (xs i) s' ∧ Near (D :: C.env.locals :: wr) W1 s1 W' s' ∧ (∀ b ∈ wr, W'.G b = none) ∧ Sx i s'.heap) ?_ (its.length + 1)
    ⟨0, W1, rfl, Nat.zero_le _, S1, Near.refl, fun b q => (hwr b q).1.g, st0⟩
  rintro j s' ⟨i, W', rfl, hi, S', N', hwg, st⟩
  show wpAny _ A ((compTurn (.ListComp elt gens cscope cpos) depth (.ref I) (.ref D) C.env).onRaise (fun x => do noteFrame x C.env; theTreesLotGoes x)) _ _ s'
  refine wpAny_noted ?_
  rw [heq]
  refine wpAny_noRaise ?_
  refine wpAny_bind (wpAny_standAt ?_)
  have pw : ∀ b ∈ wr, Priv hb C W' b := fun b q => ⟨hwg b q, hK b, (hwr b q).1.b, by rw [N'.lb]; exact (hwr b q).1.l⟩
  have mv := fun {h' : Heap} {tk : Nat} (hk : ∀ b o, b ∉ wr → s'.heap.get? b = some o → h'.get? b = some o) => S'.moved (tk := tk) pw (fun q => (hwr _ q).2.1 rfl) (fun y c e q => (hwr _ q).2.2.2 y c e rfl) (fun q => (hwr _ q).2.2.1 rfl) hk
  have nh := fun {h' : Heap} {tk : Nat} (hk : ∀ b o, b ∉ wr → s'.heap.get? b = some o → h'.get? b = some o) (hl : ∀ b ∈ wr, ∃ o, h'.get? b = some o) => Near.heap (X := D :: C.env.locals :: wr) (W := W') (s := s') (h' := h') (tk := tk)
    (fun b o q e => hk b o (fun z => q (List.mem_cons_of_mem _ (List.mem_cons_of_mem _ z))) e) (fun b q ⟨o, e⟩ => by
      by_cases z : b ∈ wr
      · exact hl b z
      · exact ⟨o, hk b o z e⟩)
  by_cases q : i < its.length
  · obtain ⟨x, hx⟩ : ∃ x, its[i]? = some x := ⟨_, List.getElem?_eq_getElem q⟩
    obtain ⟨σ1, b, hbx, hno, ha, ht, hem, hel, hwk⟩ := turn i x hx
    refine wpAny_bind (T.item i s' _ _ q st fun v h2 tk2 hMd hk2 => ?_)
    dsimp only
    refine wpAny_bind (T.go i v _ _ _ hMd fun h3 hP st3 hk3 => ?_)
    have hk23 : ∀ b o, b ∉ wr → s'.heap.get? b = some o → h3.get? b = some o := fun b o z e => hk3 b o z (hk2 b o z e)
    have S3 := mv (tk := tk2) hk23
    have N3 := N'.trans (nh (tk := tk2) hk23 (hlive _ _ st3))
    refine wpAny_bind (ha A C W' _ v _ R K S3.st ((hitm i v h3 x hx hP).mono N'.le N'.lb) fun h4 tk4 S4 hk4 => ?_)
    have C4 := S3.loc S4 hno hk4
    have N4 : Near (D :: C.env.locals :: wr) W1 s1 W' { s' with heap := h4, toks := tk4 } := N3.trans (Near.heap (fun b o q e => hk4 b o (fun z => q (by rw [z]; exact List.mem_cons_of_mem _ (List.mem_cons_self ..))) e) fun b q ⟨o, e⟩ => by
      by_cases z : b = C.env.locals
      · subst z
        obtain ⟨m, cm, F⟩ := S4.frm
        obtain ⟨o', _, _, e', _⟩ := F.ns
        exact ⟨o', e'⟩
      · exact ⟨o, hk4 b o z e⟩)
    -- the tests
    have fin : ∀ (W5 : Wd) (s5 : Shared) (b' : Bool), b' = b → Step hb W' { s' with heap := h4, toks := tk4 } W5 s5 σ1.box → wpAny (model prog w) A (if b' = true then (do emit (.ref D) C.env; again (.compLoop (.ListComp elt gens cscope cpos) depth (.ref I) (.ref D) C.env)) else again (.compLoop (.ListComp elt gens cscope cpos) depth (.ref I) (.ref D) C.env))
        (fun fin s' => match fin with | .done f => RR (.ok f) s' | .again c' => c' = .compLoop (.ListComp elt gens cscope cpos) depth (.ref I) (.ref D) C.env ∧ ∃ m, m < its.length + 1 - i ∧ ∃ i W', m = its.length + 1 - i ∧ i ≤ its.length ∧ CSt hb C W' σ0 D (xs i) s' ∧ Near (D :: C.env.locals :: wr) W1 s1 W' s' ∧ (∀ b ∈ wr, W'.G b = none) ∧ Sx i s'.heap) (fun _ _ => False) s5 := by
      rintro W5 s5 b' rfl t5
      have C5 := C4.step t5
      have N5 := N4.trans (Near.of_step t5)
      have kfp : ∀ z ∈ fp, ∀ o, h3.get? z = some o → s5.heap.get? z = some o := fun z hz o e => t5.ext z o (hk4 z o (hfp z hz).2.1 e) (by rw [N'.lb, S1.st.lbe]; exact (hfp z hz).2.2)
      have done : ∀ (W6 : Wd) (s6 : Shared), CSt hb C W6 σ1 D (xs (i + 1)) s6 → Near [D, C.env.locals] W5 s5 W6 s6 → wpAny (model prog w) A (again (.compLoop (.ListComp elt gens cscope cpos) depth (.ref I) (.ref D) C.env))
          (fun fin s' => match fin with | .done f => RR (.ok f) s' | .again c' => c' = .compLoop (.ListComp elt gens cscope cpos) depth (.ref I) (.ref D) C.env ∧ ∃ m, m < its.length + 1 - i ∧ ∃ i W', m = its.length + 1 - i ∧ i ≤ its.length ∧ CSt hb C W' σ0 D (xs i) s' ∧ Near (D :: C.env.locals :: wr) W1 s1 W' s' ∧ (∀ b ∈ wr, W'.G b = none) ∧ Sx i s'.heap) (fun _ _ => False) s6 := by
        intro W6 s6 C6 n6
        have N6 := N5.trans (n6.mono fun b q => by
          rcases List.mem_cons.mp q with rfl | q
          · exact List.mem_cons_self ..
          · cases List.mem_singleton.mp q; exact List.mem_cons_of_mem _ (List.mem_cons_self ..))
        refine wpAny_pure ⟨rfl, _, ?_, i + 1, W6, rfl, q, ⟨?_, C6.acc, C6.p, C6.offL, C6.offC, S'.nown⟩, N6, ?_, T.frame _ _ _ st3 fun z hz o e => ?_⟩
        · omega
        · have := C6.st.weaken (vs := σ1.vs) (β := σ1.box) hwk
          rwa [hbx] at this
        · intro z hz
          cases g : W6.G z with
          | none => rfl
          | some o =>
            rcases N6.fresh z o g with y | y
            · rw [(hwr z hz).1.g] at y; cases y
            · obtain ⟨o2, e2⟩ := hlive _ _ st z hz
              rcases (n6.fresh z o g) with y2 | y2
              · rcases t5.fresh z o y2 with y3 | y3
                · rw [hwg z hz] at y3; cases y3
                · obtain ⟨o3, e3⟩ := hlive _ _ st3 z hz
                  rw [show ({ s' with heap := h4, toks := tk4 } : Shared).heap.get? z = some o3 from hk4 z o3 (hwr z hz).2.1 e3] at y3; cases y3
              · obtain ⟨o3, e3⟩ := hlive _ _ st3 z hz
                rw [kfp z (T.sub z hz) o3 e3] at y2; cases y2
        · exact n6.ext z o (fun y => by
            rcases List.mem_cons.mp y with y | y
            · exact (hfp z hz).1 y
            · exact (hfp z hz).2.1 (List.mem_singleton.mp y)) (by rw [N5.lb, S1.st.lbe]; exact (hfp z hz).2.2) (kfp z hz o e)
      cases b' with
      | true =>
        rw [if_pos rfl]
        exact wpAny_bind (hem rfl A C W5 s5 D _ R K hK C5 fun W6 s6 C6 n6 => done W6 s6 C6 n6)
      | false =>
        rw [if_neg (by decide)]
        refine done W5 s5 ?_ Near.refl
        rw [hel rfl]
        exact C5
    rcases ht with ⟨rfl, rfl⟩ | ⟨c, rfl, hc⟩
    · exact wpAny_bind (wpAny_tests_nil (fin W' _ true rfl (Step.refl S4.ok)))
    · exact wpAny_bind (wpAny_tests_one (hc A C W' _ _ R K S4 fun W5 s5 t5 => fin W5 s5 b rfl t5))
  · have hin : i = its.length := by omega
    subst hin
    refine wpAny_bind (T.done s' _ _ st fun h2 tk2 hk2 => wpAny_pure ?_)
    exact hR W' s' h2 tk2 (mv hk2) N' hk2
end
end Mine
end
section
open PySem PySem.Calls PyProof.Rows PySem.W
set_option Elab.async false
set_option maxRecDepth 100000
set_option linter.unusedVariables false
namespace Mine

def clF (cells : List (Str × Addr)) : List (Str × NameKind) → List (Str × Addr) → List (Str × Addr)
  | [], acc => acc
  | (n, k) :: r, acc => clF cells r (if (k == NameKind.free) = true then (n, (cells.lookup n).getD 0) :: acc else acc)
theorem closure_eq {scope : Scope} {env : Env} (h : ∀ x ∈ scope.names, x.2 = .free → ∃ c, env.cells.lookup x.1 = some c) : closureFor scope env = pure (clF env.cells scope.names []) := by
  have key : ∀ (names : List (Str × NameKind)) (acc : List (Str × Addr)), (∀ x ∈ names, x.2 = .free → ∃ c, env.cells.lookup x.1 = some c) →
      (forIn names acc fun (x : Str × NameKind) (cs : List (Str × Addr)) => (match x with
        | (name, kind) => if (kind == NameKind.free) = true then do let y ← cellOf env name; pure (ForInStep.yield ((name, y) :: cs)) else pure (ForInStep.yield cs) : Sem (ForInStep (List (Str × Addr))))) = pure (clF env.cells names acc) := by
    intro names
    induction names with
    | nil => intro acc _; rfl
    | cons x r ih =>
      intro acc h
      obtain ⟨n, k⟩ := x
      have ih' := fun acc => ih acc fun y hy => h y (List.mem_cons_of_mem _ hy)
      rw [List.forIn_cons]
      unfold clF
      by_cases hk : (k == NameKind.free) = true
      · obtain ⟨c, hc⟩ := h (n, k) (List.mem_cons_self ..) (by simpa using hk)
        have hcell : cellOf env n = pure c := by unfold cellOf; rw [hc]
        dsimp only
        rw [if_pos hk, if_pos hk, hcell]
        show (pure c >>= fun y => pure (ForInStep.yield ((n, y) :: acc))) >>= _ = _
        simp only [pure_bind]
        rw [show (env.cells.lookup n).getD 0 = c by rw [hc]; rfl]
        exact ih' _
      · dsimp only
        rw [if_neg hk, if_neg hk]
        simp only [pure_bind]
        exact ih' _
  unfold closureFor
  exact (congrArg (fun m => m >>= fun r => (pure r : Sem (List (Str × Addr)))) (key scope.names [] h)).trans (by simp)
theorem clF_sound {cells : List (Str × Addr)} : ∀ {names : List (Str × NameKind)} {acc : List (Str × Addr)} {y : Str} {c : Addr}, (∀ x ∈ names, x.2 = .free → ∃ c, cells.lookup x.1 = some c) → (clF cells names acc).lookup y = some c → acc.lookup y = some c ∨ cells.lookup y = some c
  | [], acc, y, c, _, e => .inl e
  | (n, k) :: r, acc, y, c, h, e => by
    rcases clF_sound (names := r) (fun x hx => h x (List.mem_cons_of_mem _ hx)) e with q | q
    · split at q
      · rename_i hk
        rw [List.lookup_cons] at q
        split at q
        · rename_i hy
          have : y = n := by simpa using hy
          subst this
          obtain ⟨c', hc⟩ := h (y, k) (List.mem_cons_self ..) (by simpa using hk)
          rw [hc] at q
          exact .inr (by rw [hc]; exact q)
        · exact .inl q
      · exact .inl q
    · exact .inr q
theorem clF_comp {cells : List (Str × Addr)} : ∀ {names : List (Str × NameKind)} {acc : List (Str × Addr)} {y : Str}, ((y, NameKind.free) ∈ names ∨ ∃ c, acc.lookup y = some c) → ∃ c, (clF cells names acc).lookup y = some c
  | [], acc, y, h => by
    rcases h with h | h
    · cases h
    · exact h
  | (n, k) :: r, acc, y, h => by
    refine clF_comp (names := r) ?_
    rcases h with h | ⟨c, h⟩
    · rcases List.mem_cons.mp h with h | h
      · cases h
        right
        exact ⟨_, by rw [if_pos (by rfl)]; exact List.lookup_cons_self⟩
      · exact .inl h
    · right
      split
      · rw [List.lookup_cons]
        split
        · exact ⟨_, rfl⟩
        · exact ⟨c, h⟩
      · exact ⟨c, h⟩

/-- a comprehension's names as the model runs them -/
def rlb (scope sc : Scope) : Scope := { scope with names := scope.names.map fun (n, k) => if (k == .free && sc.kind == .function && sc.names.lookup n == some .cell) then (n, .cell) else (n, k) }
theorem rlb_eq (scope : Scope) (env : Env) : relabel scope env = rlb scope env.scope := rfl
def freeOk (scope sc : Scope) (x : Str) : Bool := scope.names.contains (x, NameKind.free) && (sc.names.lookup x == some .cell) && ((rlb scope sc).names.lookup x == some .cell)
def scOk (scope sc : Scope) (nms : List Str) : Bool := scope.kind == .function && scope.names.all (fun x => x.2 != .cell) && scope.names.all (fun x => x.2 != .local || scope.names.lookup x.1 == some .local) &&
  scope.names.all (fun x => x.2 != .free || ((sc.names.lookup x.1 == some .cell) && nms.contains x.1))
inductive CV (scope sc : Scope) (vs : List (Str × Slot)) : List (Str × Slot) → Prop
  | nil : CV scope sc vs []
  | loc {x r} : isLoc scope x = true → CV scope sc vs r → CV scope sc vs ((x, .un) :: r)
  | free {x z r} : freeOk scope sc x = true → Get vs x (.val z) → CV scope sc vs r → CV scope sc vs ((x, .val z) :: r)
theorem CV.get {scope sc : Scope} {vs cv : List (Str × Slot)} (h : CV scope sc vs cv) : ∀ {x sl}, Get cv x sl → (sl = .un ∧ isLoc scope x = true) ∨ ∃ z, sl = .val z ∧ Get vs x (.val z) ∧ freeOk scope sc x = true := by
  induction h with
  | nil => intro x sl g; cases g
  | loc h1 h ih => intro x sl g; cases g with
    | here => exact .inl ⟨rfl, h1⟩
    | there _ g => exact ih g
  | free h1 h2 h ih => intro x sl g; cases g with
    | here => exact .inr ⟨_, rfl, h2, h1⟩
    | there _ g => exact ih g
theorem get_of_name {vs : List (Str × Slot)} {x : Str} (h : (vs.map (·.1)).contains x = true) : ∃ sl, Get vs x sl := by
  induction vs with
  | nil => simp at h
  | cons y r ih =>
    obtain ⟨n, sl⟩ := y
    by_cases q : (n == x) = true
    · have : n = x := by simpa using q
      subst this
      exact ⟨sl, .here⟩
    · have q' : (n == x) = false := by simpa using q
      have : (r.map (·.1)).contains x = true := by
        simp only [List.map_cons, List.contains_cons, Bool.or_eq_true] at h
        rcases h with h | h
        · have : x = n := by simpa using h
          subst this; simp at q'
        · exact h
      obtain ⟨sl', g⟩ := ih this
      exact ⟨sl', .there q' g⟩
end Mine
end
section
open PySem PySem.Calls PyProof.Rows PySem.W
set_option Elab.async false
set_option maxRecDepth 100000
set_option linter.unusedVariables false
namespace Mine
section
variable {prog : Program} {w : World} {hb : Heap} {sc : Scope} {d d' : Nat} {σ σ' σ0 σ1 : Sg} {β β1 β2 β3 β' β'' : Bx}

/-- the turns of a comprehension -/
def Turns (prog : Program) (w : World) (hb : Heap) (sc' : Scope) (d : Nat) (σ0 : Sg) (target : Expr) (ifs : List Expr) (emit : Value → Env → Sem Unit) (its : List Itm) (xs : Nat → List MV) : Prop :=
  ∀ i x, its[i]? = some x → ∃ σ1 b, σ1.box = σ0.box ∧ (∀ y p zs, ¬ Get σ1.vs y (.own p zs)) ∧ AsgL prog w hb sc' d σ0 target x σ1 ∧ Tst prog w hb sc' d σ1 ifs b ∧ (b = true → Emit prog w hb sc' d emit σ1 (xs i) (xs (i + 1))) ∧ (b = false → xs (i + 1) = xs i) ∧ Wk σ1.vs σ0.vs

theorem comp_core {elt target iter : Expr} {ifs : List Expr} {rest : List Comprehension} {cscope : Scope} {pos cpos : Pos} {use : Option (Value → Sem Unit)} {its : List Itm} {emit : Value → Env → Sem Unit} {nms : List Str} {cv : List (Str × Slot)} {A : Around} {C : Ctx} {W : Wd} {s : Shared} {Q : Value → Shared → Prop} {E : Value → Shared → Prop}
    (xs : Nat → List MV) (heq : TurnIs (.ListComp elt (⟨target, iter, ifs, 0⟩ :: rest) cscope cpos) 0 iter.pos target ifs emit) (hit : Iter prog w hb sc d σ target iter its β1) (hsc : scOk cscope sc nms = true) (hn : σ.vs.map (·.1) = nms) (hcv : CV cscope sc σ.vs cv) (h0 : xs 0 = [])
    (turn : Turns prog w hb (rlb cscope sc) d ⟨cv, β1⟩ target ifs emit its xs) (hs : ∀ env x, foldedSetIterable iter env x = pure x) (R : Room d A) (K : CtxOk sc C) (S : St hb C W σ s)
    (k : ∀ W' s' D Lc o vs n, Step hb W s W' s' β1 → s.heap.get? D = none → s.heap.get? Lc = none → D ≠ Lc → s'.heap.get? D = some o → LsObj true o → o.data = .seq vs n → RVs W' vs.toList (xs its.length) → W'.G D = none → W'.G Lc = none → (∃ m, s'.heap.Ns Lc m) →
      compPost (model prog w) A E use Q (.ref D) Lc (.ok .next) s') :
    wpAny (model prog w) A (comprehension (.ListComp elt (⟨target, iter, ifs, 0⟩ :: rest) cscope cpos) cscope C.env pos (newList []) false (eval iter C.env) use) Q E s := by
  unfold scOk at hsc
  simp only [Bool.and_eq_true, List.all_eq_true, Bool.or_eq_true, bne_iff_ne, ne_eq, beq_iff_eq] at hsc
  obtain ⟨⟨⟨hkind, hcell⟩, hnames⟩, hfree⟩ := hsc
  obtain ⟨m, cm, F⟩ := S.frm
  have hcl : ∀ x ∈ cscope.names, x.2 = .free → ∃ c, C.env.cells.lookup x.1 = some c := by
    intro x hx hf
    rcases hfree x hx with h | ⟨h1, h2⟩
    · exact absurd hf h
    · rw [← hn] at h2
      obtain ⟨sl, g⟩ := get_of_name h2
      exact F.has _ sl g (by unfold Env.kindOf; rw [K.scope, h1]; decide)
  refine wpAny_comprehension_free (cl := clF C.env.cells cscope.names []) rfl (hs _) (closure_eq hcl) hkind (fun x hx hl => (hnames x hx).resolve_left fun h => h hl) ?_
  refine wpAny_mono (hit A C W s _ R K S fun W1 s1 I fp wr P Md Sx t1 T st0 hwr hfp hlive hitm hself => ?_) (fun xv s' h => wpAny_mono h (fun _ _ z => z) fun _ _ z => z.elim) fun _ _ z => z.elim
  have S1 := S.step t1
  have F1 := F.step S t1
  have ok1 := t1.okay S.ok
  refine wpAny_newObj_type (wpAny_newFunctionEnv (fun x hx => hcell x hx) (by intro y hy; simp at hy) (fun h₁ hns₁ hsb₁ => ?_) hkind)
  dsimp only at hns₁ hsb₁ ⊢
  generalize hH2 : s1.heap.push { cls := .type "list", dict := none, data := .seq ([] : List Value).toArray } = H2 at hns₁ hsb₁ ⊢
  have hC : H2.objs.size = s1.heap.objs.size + 1 := by rw [← hH2, Heap.size_push]
  have hDC : s1.heap.objs.size ≠ H2.objs.size := by rw [hC]; exact Nat.ne_of_lt (Nat.lt_succ_self _)
  have fresh : ∀ a, s1.heap.objs.size ≤ a → s1.heap.get? a = none := fun a ha => by
    cases e : s1.heap.get? a with
    | none => rfl
    | some o' => exact absurd (Heap.lt_size e) (Nat.not_lt.mpr ha)
  have hD : s1.heap.get? s1.heap.objs.size = none := fresh _ (Nat.le_refl _)
  have hL : s1.heap.get? H2.objs.size = none := fresh _ (by rw [hC]; exact Nat.le_succ _)
  have ne : ∀ {b a o}, s1.heap.get? b = some o → s1.heap.get? a = none → b ≠ a := fun e1 e2 z => by rw [z, e2] at e1; cases e1
  have old : ∀ b o, s1.heap.get? b = some o → h₁.get? b = some o := fun b o e => hsb₁.extBut b o (ne e hL) (Heap.get?_push_of_some _ (hH2 ▸ Heap.get?_push_of_some _ e))
  have hacc : h₁.get? s1.heap.objs.size = some { cls := .type "list", dict := none, data := .seq ([] : List Value).toArray } := hsb₁.extBut _ _ hDC (Heap.get?_push_of_some _ (hH2 ▸ Heap.get?_push_size _ rfl))
  generalize hDd : s1.heap.objs.size = D at *
  generalize hLl : H2.objs.size = L at *
  generalize hs4 : ({ s1 with heap := h₁, toks := s1.toks + ([] : List (Str × Value)).length } : Shared) = s4
  have t2 : Step hb W1 s1 W1 s4 β1 := by rw [← hs4]; exact Step.grow ok1 old
  have t4 := t1.trans t2
  have hs4h : s4.heap = h₁ := by rw [← hs4]
  have pr : ∀ (C' : Ctx) (b : Addr), C'.K b = none → s1.heap.get? b = none → Priv hb C' W1 b := fun C' b hk hb' => ⟨ok1.gnone hb', hk, ok1.bnone hb', ok1.lnone hb'⟩
  have env_eq : ({ scope := relabel cscope C.env, locals := L, globals := C.env.globals, cells := clF C.env.cells cscope.names [], qual := C.env.qual, func := none, code := C.env.code, frame := C.env.frame, builtins := C.env.builtins } : Env) = compEnvC cscope (clF C.env.cells cscope.names []) L C.env := rfl
  let Cc : Ctx := { env := compEnvC cscope (clF C.env.cells cscope.names []) L C.env, sh := s1, K := fun _ => none, G₀ := fun _ => none, lb := W1.lb }
  have Kc : CtxOk (rlb cscope sc) Cc := ⟨by show relabel cscope C.env = _; rw [rlb_eq, K.scope], hkind, K.globals, K.builtins⟩
  have cells : ∀ y c, Cc.env.cells.lookup y = some c → C.env.cells.lookup y = some c := fun y c e => by
    rcases clF_sound hcl e with q | q
    · simp at q
    · exact q
  have kindc : ∀ x, Cc.env.kindOf x = (rlb cscope sc).names.lookup x := fun x => by unfold Env.kindOf; rw [Kc.scope]
  have kindp : ∀ x, C.env.kindOf x = sc.names.lookup x := fun x => by unfold Env.kindOf; rw [K.scope]
  have locc : ∀ x, isLoc cscope x = true → Cc.env.kindOf x = some .local := fun x h => lookup_relabel_local (by simpa [isLoc] using h)
  have hno : ∀ y p zs, ¬ Get cv y (.own p zs) := fun y p zs g => by
    rcases hcv.get g with ⟨h, _⟩ | ⟨z, h, _⟩ <;> cases h
  have Fc : Frm hb Cc W1 ⟨cv, β1⟩ s4.heap (fun x => ([] : List (Str × Value)).reverse.lookup x) cm := by
    refine ⟨by rw [hs4h]; exact hns₁, ?_, ?_, ?_, ?_⟩
    · intro y c e
      obtain ⟨o, ho, hd⟩ := F1.cell y c (cells y c e)
      exact ⟨o, by rw [hs4h]; exact old _ _ ho, hd⟩
    · intro x sl g
      rcases hcv.get g with ⟨rfl, _⟩ | ⟨z, rfl, g', hf⟩
      · trivial
      · unfold freeOk at hf
        simp only [Bool.and_eq_true, beq_iff_eq] at hf
        obtain ⟨v, e, r⟩ := F1.var x _ g'
        refine ⟨v, ?_, r⟩
        unfold valOf at e ⊢
        rw [kindp, hf.1.2] at e
        rw [kindc, hf.2]
        exact e
    · intro x sl g hn'
      rcases hcv.get g with ⟨rfl, hl⟩ | ⟨z, rfl, g', hf⟩
      · exact absurd (locc x hl) hn'
      · unfold freeOk at hf
        simp only [Bool.and_eq_true, List.contains_iff_mem] at hf
        exact clF_comp (.inl hf.1.1)
    · intro x y p q zs ys l g1
      exact absurd g1 (hno x p zs)
  have Sc : St hb Cc W1 ⟨cv, β1⟩ s4 := by
    refine ⟨t2.okay ok1, ⟨h₁, _, hs4.symm⟩, fun b o e _ => ?kp, fun b o e => ?le, fun _ _ _ => .inr rfl, ⟨_, cm, Fc⟩, pr Cc L rfl hL, ?c1, ?c2, rfl⟩
    case kp => exact absurd e (by show ¬ (none : Option Obj) = some o; simp)
    case le => exact absurd e (by show ¬ (none : Option Obj) = some o; simp)
    · intro y c e
      have p := S1.privC y c (cells y c e)
      obtain ⟨o, ho, _⟩ := F1.cell y c (cells y c e)
      exact ⟨⟨p.1.g, rfl, p.1.b, p.1.l⟩, ne ho hL⟩
    · intro y z c e1 e2
      exact S.apart y z c (cells y c e1) (cells z c e2)
  have C0 : CSt hb Cc W1 ⟨cv, β1⟩ D (xs 0) s4 := by
    refine ⟨Sc, ⟨_, #[], 0, by rw [hs4h]; exact hacc, ⟨rfl, fun _ => rfl⟩, rfl, by rw [h0]; exact .nil⟩, pr Cc D rfl hD, hDC, ?_, hno⟩
    intro y c e
    obtain ⟨o, ho, _⟩ := F1.cell y c (cells y c e)
    exact (ne ho hD).symm
  have st4 : Sx 0 s4.heap := by rw [hs4h]; exact T.frame 0 _ _ st0 fun b _ o e => old b o e
  have back : ∀ b, s1.heap.get? b = none → s.heap.get? b = none := fun b q => t1.back q
  have loop : codeAny (model prog w) A (.compLoop (.ListComp elt (⟨target, iter, ifs, 0⟩ :: rest) cscope cpos) 0 (.ref I) (.ref D) Cc.env) (compPost (model prog w) A E use Q (.ref D) L) s4 := by
    refine comp_loop (C := Cc) heq xs R Kc (fun _ => rfl) T (fun b q => ?_) (fun b q => ?_) hlive (fun i v h x hx hP => hitm i v h x hx hP) C0 st4 turn fun W' s' h2 tk2 C6 N6 hk2 => ?_
    · obtain ⟨o, ho⟩ := hlive 0 _ st0 b q
      refine ⟨⟨(hwr b q).2, rfl, S.ok.bnone (hwr b q).1, by rw [t1.lb]; exact S.ok.lnone (hwr b q).1⟩, ne ho hL, ne ho hD, fun y c e => ?_⟩
      obtain ⟨o', ho', _⟩ := F.cell y c (cells y c e)
      rintro rfl
      rw [(hwr _ q).1] at ho'; cases ho'
    · obtain ⟨⟨o, ho⟩, hh⟩ := hfp b q
      refine ⟨ne ho hD, ne ho hL, fun e => ?_⟩
      rcases hh with z | ⟨o2, z⟩
      · have := S.ok.lnone (hwr b z).1
        rw [← t1.lb] at this
        exact this e
      · have := (ok1.box b e).2.1
        rw [z] at this; cases this
    · obtain ⟨o, vs, n, g1, g2, g3, g4⟩ := C6.acc
      have hX : ∀ b ∈ D :: L :: wr, s.heap.get? b = none := fun b q => by
        rcases List.mem_cons.mp q with rfl | q
        · exact back _ hD
        · rcases List.mem_cons.mp q with rfl | q
          · exact back _ hL
          · exact (hwr b q).1
      have N7 : Near (D :: L :: wr) W s W' s' := (Near.of_step t4).trans N6
      have N8 : Near [] W s W' { s' with heap := h2, toks := tk2 } := N7.close (fun b q => .inr q) hX fun b o q e => hk2 b o (fun z => q (List.mem_cons_of_mem _ (List.mem_cons_of_mem _ z))) e
      obtain ⟨m6, cm6, F6⟩ := C6.st.frm
      exact k W' _ D L o vs n (N8.step C6.st.ok fun b q => by cases q) (back _ hD) (back _ hL) hDC g1 g2 g3 g4 C6.p.g C6.st.privL.g ⟨m6, F6.ns⟩
  exact codeAny_compStart_list loop (wpAny_noRaise (hself 0 s4 _ st4 loop))

theorem Step.but {W W' : Wd} {s s' : Shared} {h2 : Heap} {tk : Nat} {L : Addr} (x : Step hb W s W' s' β) (hL : s.heap.get? L = none) (k : Okay hb W s β') (hG : W'.G L = none) (hs : Heap.SameBut L s'.heap h2) : Step hb W s W' { s' with heap := h2, toks := tk } β where
  same := by
    obtain ⟨h, tk, rfl⟩ := x.same
    exact ⟨_, _, rfl⟩
  ext := fun b o e l => hs.extBut b o (by rintro rfl; rw [hL] at e; cases e) (x.ext b o e l)
  le := x.le
  lb := x.lb
  fresh := x.fresh
  frz := fun b o e => hs.extBut b o (by rintro rfl; rw [hG] at e; cases e) (x.frz b o e)
  box := fun a q => by
    obtain ⟨h1, h2, o, n, ls, t, h3, h4⟩ := x.box a q
    exact ⟨h1, h2, o, n, ls, t, hs.extBut a o (by rintro rfl; exact k.lnone hL (by rw [← x.lb]; exact q)) h3, h4⟩

/-- a list comprehension makes a new list -/
theorem EvL.comp {elt target iter : Expr} {ifs : List Expr} {rest : List Comprehension} {cscope : Scope} {cpos : Pos} {its : List Itm} {emit : Value → Env → Sem Unit} {nms : List Str} {cv : List (Str × Slot)}
    (xs : Nat → List MV) (heq : TurnIs (.ListComp elt (⟨target, iter, ifs, 0⟩ :: rest) cscope cpos) 0 iter.pos target ifs emit) (hit : Iter prog w hb sc d σ target iter its β1) (hsc : scOk cscope sc nms = true) (hn : σ.vs.map (·.1) = nms) (hcv : CV cscope sc σ.vs cv) (h0 : xs 0 = [])
    (turn : Turns prog w hb (rlb cscope sc) d ⟨cv, β1⟩ target ifs emit its xs) (hs : ∀ env x, foldedSetIterable iter env x = pure x) :
    EvL prog w hb sc d σ (.ListComp elt (⟨target, iter, ifs, 0⟩ :: rest) cscope cpos) (xs its.length) β1 := fun A C W s Q R K S k => by
  rw [eval_ListComp]
  refine comp_core (use := none) xs heq hit hsc hn hcv h0 turn hs R K S fun W' s' D Lc o vs n t hD hL hDL g1 g2 g3 g4 g5 g6 g7 => ?_
  obtain ⟨m, hm⟩ := g7
  refine ⟨m, hm, fun h' hs' => ?_⟩
  exact k W' _ D o vs n (t.but hL S.ok g6 hs') hD (hs'.extBut D o hDL g1) g2 g3 g4 g5
end
end Mine
end
section
open PySem PySem.Calls PyProof.Rows PySem.W
set_option Elab.async false
set_option maxRecDepth 100000
set_option linter.unusedVariables false
namespace Mine
section
variable {prog : Program} {w : World} {hb : Heap} {sc : Scope} {d d' : Nat} {σ σ' σ0 σ1 : Sg} {β β1 β2 β3 β' β'' : Bx}

theorem TurnIs.single (elt target iter : Expr) (ifs : List Expr) (cscope : Scope) (cpos : Pos) : TurnIs (.ListComp elt [⟨target, iter, ifs, 0⟩] cscope cpos) 0 iter.pos target ifs (emE elt) := fun _ _ _ => rfl

/-- a comprehension assigned to a name -/
theorem Ex1.assign_comp {y : Str} {py spos : Pos} {elt target iter : Expr} {ifs : List Expr} {rest : List Comprehension} {cscope : Scope} {cpos : Pos} {its : List Itm} {emit : Value → Env → Sem Unit} {nms : List Str} {cv vs' : List (Str × Slot)}
    (xs : Nat → List MV) (hy : isSto sc y = true) (heq : TurnIs (.ListComp elt (⟨target, iter, ifs, 0⟩ :: rest) cscope cpos) 0 iter.pos target ifs emit) (hit : Iter prog w hb sc d σ target iter its β1) (hsc : scOk cscope sc nms = true) (hn : σ.vs.map (·.1) = nms) (hcv : CV cscope sc σ.vs cv) (h0 : xs 0 = [])
    (turn : Turns prog w hb (rlb cscope sc) d ⟨cv, β1⟩ target ifs emit its xs) (hs : ∀ env x, foldedSetIterable iter env x = pure x) (p : Put σ.vs y (.own true (xs its.length)) vs')
    (hsw : ∀ env : Env, env.scope = sc → swapsWith (.ListComp elt (⟨target, iter, ifs, 0⟩ :: rest) cscope cpos) (some (.Name y py)) spos.line env = pure true) :
    Ex1 prog w hb sc d σ (.Assign [.Name y py] (.ListComp elt (⟨target, iter, ifs, 0⟩ :: rest) cscope cpos) spos) (.nxt ⟨vs', β1⟩) := fun A C W s Q R K S k => by
  rw [exec_Assign_Name_used _ _ _ _ (hsw _ K.scope)]
  refine wpAny_bind (wpAny_standAt (wpAny_bind ?_))
  show wpAny _ A (do let _ ← comprehension (.ListComp elt (⟨target, iter, ifs, 0⟩ :: rest) cscope cpos) cscope C.env _ (newList []) false (eval iter C.env) (some (PySem.assign (.Name y py) C.env))) _ _ s
  refine wpAny_bind (wpAny_mono (comp_core (use := some (PySem.assign (.Name y py) C.env)) (Q := fun _ s' => Q .next s') (E := fun _ _ => False) xs heq hit hsc hn hcv h0 turn hs R K S fun W' s' D Lc o vs n t hD hL hDL g1 g2 g3 g4 g5 g6 g7 => ?_) (fun _ s' hq => wpAny_pure (wpAny_pure hq)) fun _ _ e => e)
  show wpAny _ A (PySem.assign (.Name y py) C.env (.ref D)) _ _ _
  obtain ⟨mL, hmL⟩ := g7
  obtain ⟨m, cm, F⟩ := S.frm
  have F1 := F.step S t
  have S1 := S.step t
  have offl : ∀ {a}, s.heap.get? a = none → a ≠ C.env.locals ∧ (∀ y c, C.env.cells.lookup y = some c → a ≠ c) ∧ ∀ y p zs l', Get σ.vs y (.own p zs) → valOf C.env m cm y = some (.ref l') → l' ≠ a := fun {a} h => F.off h
  obtain ⟨oL, es, ep, hL1, rL⟩ := hmL
  have hd : ∀ b ∈ [Lc], ∃ o, s'.heap.get? b = some o := fun b q => by cases List.mem_singleton.mp q; exact ⟨_, hL1⟩
  have nL : C.env.locals ∉ [Lc] := fun q => (offl hL).1 (List.mem_singleton.mp q).symm
  have nC : ∀ y c, C.env.cells.lookup y = some c → c ∉ [Lc] := fun y c e q => (offl hL).2.1 y c e (List.mem_singleton.mp q).symm
  have nO : ∀ y p zs l, Get (σ.bx β1).vs y (.own p zs) → valOf C.env m cm y = some (.ref l) → l ∉ [Lc] := fun y p zs l g e q => (offl hL).2.2 y p zs l g e (List.mem_singleton.mp q)
  have Sp : St hb (C.prot [Lc] s'.heap W'.G) W' (σ.bx β1) s' := S1.prot F1 nL nC nO
  have Fp : Frm hb (C.prot [Lc] s'.heap W'.G) W' (σ.bx β1) s'.heap m cm := F1.prot nO
  have prD : Priv hb C W' D := ⟨g5, (S.priv hD).k, (S.priv hD).b, by rw [t.lb]; exact (S.priv hD).l⟩
  have prL : Priv hb C W' Lc := ⟨g6, (S.priv hL).k, (S.priv hL).b, by rw [t.lb]; exact (S.priv hL).l⟩
  refine assign_Name (wp_store (C := C.prot [Lc] s'.heap W'.G) (kindC K.prot) Sp Fp (sto_kind K.prot hy) p p.has ⟨D, o, vs, n, rfl, g1, g2, g3, g4, prD.prot (fun q => hDL (List.mem_singleton.mp q)), (offl hD).1, (offl hD).2.1⟩ ?_ fun h' tk S' => ?_)
  · intro q ys l' e1 e2 y p' zs _ g e3
    cases e2
    exact (offl hD).2.2 y p' zs _ g e3 rfl
  · have hkL : h'.get? Lc = some oL := S'.kept (List.mem_singleton.mpr rfl) hL1 (by rw [← S.lbe, ← t.lb]; exact prL.l)
    refine ⟨mL, ⟨oL, es, ep, hkL, rL⟩, fun h2 hs2 => k W' _ _ ⟨rfl, ?_⟩⟩
    have Su : St hb C W' { σ.bx β1 with vs := vs' } { s' with heap := h', toks := tk } := S'.unprot hd (fun b q o e => by cases List.mem_singleton.mp q; rw [prL.k] at e; cases e) S1.le S1.new
    obtain ⟨m2, cm2, F2⟩ := S'.frm
    obtain ⟨F2u, nO2⟩ := F2.unprot hd
    exact (Su.moved (wr := [Lc]) (tk := tk) F2u (fun b q => by cases List.mem_singleton.mp q; exact prL.b) (fun b q => by cases List.mem_singleton.mp q; rw [← S.lbe, ← t.lb]; exact prL.l) (fun b q => by cases List.mem_singleton.mp q; exact prL.g) (fun b q => by cases List.mem_singleton.mp q; exact prL.k) nL nC nO2
      fun b o q e => hs2.extBut b o (fun z => q (List.mem_singleton.mpr z)) e).1
end
end Mine
end
section
open PySem PySem.Calls PyProof.Rows PySem.W
set_option Elab.async false
set_option maxRecDepth 100000
set_option linter.unusedVariables false
namespace Mine
section
variable {prog : Program} {w : World} {hb : Heap} {sc : Scope} {d d' : Nat} {σ σ' σ0 σ1 : Sg} {β β1 β2 β3 β' β'' : Bx}

def emN (e i2 : Expr) (acc : Value) (env : Env) : Sem Unit := do
  let x ← eval i2 env
  standAt i2.pos
  let x ← foldedSetIterable i2 env x
  let _ ← runOwn (.compStart e 1 (← holding [x] (pyIter x)) acc env) env
theorem TurnIs.outer (elt t1 i1 t2 i2 : Expr) (ifs1 ifs2 : List Expr) (cscope : Scope) (cpos : Pos) : TurnIs (.ListComp elt [⟨t1, i1, ifs1, 0⟩, ⟨t2, i2, ifs2, 0⟩] cscope cpos) 0 i1.pos t1 ifs1 (emN (.ListComp elt [⟨t1, i1, ifs1, 0⟩, ⟨t2, i2, ifs2, 0⟩] cscope cpos) i2) := fun it acc env => by
  unfold emN compTurn
  simp only [bind_assoc, pure_bind]
  try rfl
theorem TurnIs.inner (elt t1 i1 t2 i2 : Expr) (ifs1 ifs2 : List Expr) (cscope : Scope) (cpos : Pos) : TurnIs (.ListComp elt [⟨t1, i1, ifs1, 0⟩, ⟨t2, i2, ifs2, 0⟩] cscope cpos) 1 i2.pos t2 ifs2 (emE elt) := fun _ _ _ => rfl
theorem codeAny_compStart1 {elt t1 i1 t2 i2 : Expr} {ifs1 ifs2 : List Expr} {scope : Scope} {pos : Pos} {it acc : Value} {env : Env} {A : Around} {R : Result → Shared → Prop} {s : Shared}
    (h0 : codeAny (model prog w) A (.compLoop (.ListComp elt [⟨t1, i1, ifs1, 0⟩, ⟨t2, i2, ifs2, 0⟩] scope pos) 1 it acc env) R s)
    (h : wpAny (model prog w) A (pyIter it) (fun it' s' => codeAny (model prog w) A (.compLoop (.ListComp elt [⟨t1, i1, ifs1, 0⟩, ⟨t2, i2, ifs2, 0⟩] scope pos) 1 it' acc env) R s') (notedBy (model prog w) A env fun x s' => R (.error x) s') s) :
    codeAny (model prog w) A (.compStart (.ListComp elt [⟨t1, i1, ifs1, 0⟩, ⟨t2, i2, ifs2, 0⟩] scope pos) 1 it acc env) R s := by
  refine codeAny_of_tree ?_
  show wpAny _ _ ((compStart (.ListComp elt [⟨t1, i1, ifs1, 0⟩, ⟨t2, i2, ifs2, 0⟩] scope pos) 1 it acc env).onRaise (fun x => do noteFrame x env; standAt theWindowsPlace)) _ _ s
  refine wpAny_notedAt ?_
  unfold compStart
  show wpAny _ _ (ask >>= _) _ _ s
  refine wpAny_bind (wpAny_askSetting (wpAny_ite ?_))
  split
  · first
      | exact wpAny_bind (wpAny_pure (wpAny_pure (And.intro rfl h0)))
      | exact wpAny_pure (And.intro rfl h0)
  · first
      | exact wpAny_bind (wpAny_rule (wpAny_bind (wpAny_standAt (wpAny_bind (wpAny_mono h (fun it' s' h' => wpAny_pure (And.intro rfl h')) fun _ _ x => x)))))
      | (refine wpAny_bind (wpAny_rule ?_); show wpAny _ _ (standAt i2.pos >>= _) _ _ s; exact wpAny_bind (wpAny_standAt (wpAny_bind (wpAny_mono h (fun it' s' h' => wpAny_pure (And.intro rfl h')) fun _ _ x => x))))

theorem Emit.nest {elt t1 i1 t2 i2 : Expr} {ifs1 ifs2 : List Expr} {cscope : Scope} {cpos : Pos} {its : List Itm} (xs : Nat → List MV) (hit : Iter prog w hb sc d σ t2 i2 its σ.box) (turn : Turns prog w hb sc d σ t2 ifs2 (emE elt) its xs) (hs : ∀ env x, foldedSetIterable i2 env x = pure x) :
    Emit prog w hb sc d (emN (.ListComp elt [⟨t1, i1, ifs1, 0⟩, ⟨t2, i2, ifs2, 0⟩] cscope cpos) i2) σ (xs 0) (xs its.length) := fun A C W s D Q R K hK S k => by
  unfold emN
  refine wpAny_bind (wpAny_mono (hit A C W s (fun it s' => wpAny (model prog w) A (runOwn (.compStart (.ListComp elt [⟨t1, i1, ifs1, 0⟩, ⟨t2, i2, ifs2, 0⟩] cscope cpos) 1 it (.ref D) C.env) C.env) (fun _ s'' => Q () s'') (fun _ _ => False) s') R K S.st fun W1 s1 I fp wr P Md Sx t1' T st0 hwr hfp hlive hitm hself => ?_)
    (fun xv s' h => wpAny_bind (wpAny_standAt (wpAny_bind (wpAny_of_eq (hs _ _) (wpAny_bind (wpAny_holding (wpAny_mono h (fun it s'' h' => wpAny_bind (wpAny_mono h' (fun _ _ q => wpAny_pure q) fun _ _ z => z)) fun _ _ z => z))))))) fun _ _ z => z)
  have S1 := S.step t1'
  have ok1 := t1'.okay S.st.ok
  obtain ⟨m, cm, F⟩ := S.st.frm
  obtain ⟨oD, _, _, hD, _⟩ := S.acc
  have nw : ∀ b ∈ wr, b ≠ C.env.locals ∧ b ≠ D ∧ ∀ y c, C.env.cells.lookup y = some c → c ≠ b := fun b q => by
    have hn := (hwr b q).1
    refine ⟨(F.off hn).1, ?_, fun y c e => ((F.off hn).2.1 y c e).symm⟩
    rintro rfl
    rw [hn] at hD; cases hD
  have loop : codeAny (model prog w) A (.compLoop (.ListComp elt [⟨t1, i1, ifs1, 0⟩, ⟨t2, i2, ifs2, 0⟩] cscope cpos) 1 (.ref I) (.ref D) C.env) (fun r s' => match r with | .ok f => Q () s' | .error e => cameBackBy (model prog w) A C.env (fun _ _ => False) e s') s1 := by
    refine comp_loop (TurnIs.inner elt t1 i1 t2 i2 ifs1 ifs2 cscope cpos) xs R K hK T (fun b q => ?_) (fun b q => ?_) hlive hitm S1 st0 turn fun W' s' h2 tk2 C6 N6 hk2 => ?_
    · exact ⟨⟨(hwr b q).2, hK b, S.st.ok.bnone (hwr b q).1, by rw [t1'.lb]; exact S.st.ok.lnone (hwr b q).1⟩, (nw b q).1, (nw b q).2.1, (nw b q).2.2⟩
    · obtain ⟨_, hh⟩ := hfp b q
      rcases hh with z | ⟨o2, z⟩
      · exact ⟨(nw b z).2.1, (nw b z).1, fun e => S.st.ok.lnone (hwr b z).1 (by rw [S.st.lbe]; exact e)⟩
      · refine ⟨?_, ?_, fun e => ?_⟩
        · rintro rfl
          rw [S1.p.g] at z; cases z
        · rintro rfl
          rw [S1.st.privL.g] at z; cases z
        · have := (ok1.box b (by rw [t1'.lb, S.st.lbe]; exact e)).2.1
          rw [z] at this; cases this
    · refine k W' _ C6 (((Near.of_step t1').trans N6).close (wr := wr) (fun b q => ?_) (fun b q => (hwr b q).1) hk2)
      rcases List.mem_cons.mp q with rfl | q
      · exact .inl (List.mem_cons_self ..)
      · rcases List.mem_cons.mp q with rfl | q
        · exact .inl (List.mem_cons_of_mem _ (List.mem_cons_self ..))
        · exact .inr q
  exact wpAny_runOwn (codeAny_compStart1 loop (wpAny_noRaise (hself 0 s1 _ st0 loop)))
end
end Mine
end
section
open PySem PySem.Calls PyProof.Rows PySem.W
set_option Elab.async false
set_option maxRecDepth 100000
set_option linter.unusedVariables false
namespace Mine
section
variable {prog : Program} {w : World} {hb : Heap} {sc : Scope} {d d' : Nat} {σ σ' σ0 σ1 : Sg} {β β1 β2 β3 β' β'' : Bx}

def noOwn : List (Str × Slot) → Prop
  | [] => True
  | (_, .own _ _) :: _ => False
  | (_, .un) :: r => noOwn r
  | (_, .val _) :: r => noOwn r
theorem noOwn.get : ∀ {vs : List (Str × Slot)}, noOwn vs → ∀ y p zs, ¬ Get vs y (.own p zs)
  | [], _, y, p, zs, g => by cases g
  | (_, .own _ _) :: _, h, y, p, zs, g => h.elim
  | (_, .un) :: r, h, y, p, zs, g => by
    cases g with
    | there _ g => exact noOwn.get (vs := r) h _ _ _ g
  | (_, .val _) :: r, h, y, p, zs, g => by
    cases g with
    | there _ g => exact noOwn.get (vs := r) h _ _ _ g

/-- one turn, one item -/
def TurnM (prog : Program) (w : World) (hb : Heap) (sc : Scope) (d : Nat) (σ0 : Sg) (target : Expr) (it : Itm) (k : Sg → Prop) : Prop :=
  ∃ vs1, noOwn vs1 ∧ AsgL prog w hb sc d σ0 target it ⟨vs1, σ0.box⟩ ∧ Wk vs1 σ0.vs ∧ k ⟨vs1, σ0.box⟩
theorem TurnM.mk {target : Expr} {it : Itm} {k : Sg → Prop} {vs1 : List (Str × Slot)} (h1 : AsgL prog w hb sc d σ0 target it ⟨vs1, σ0.box⟩) (h2 : k ⟨vs1, σ0.box⟩) (h3 : noOwn vs1) (h4 : Wk vs1 σ0.vs) : TurnM prog w hb sc d σ0 target it k := ⟨vs1, h3, h1, h4, h2⟩

theorem take_get {γ : Type} {l : List γ} {i : Nat} {x : γ} (h : l[i]? = some x) : l.take (i + 1) = l.take i ++ [x] ∧ x ∈ l ∧ i < l.length := by
  obtain ⟨h1, h2⟩ := List.getElem?_eq_some_iff.mp h
  refine ⟨?_, h2 ▸ List.getElem_mem h1, h1⟩
  rw [List.take_add_one, h]; rfl

theorem Turns.map {γ : Type} {l : List γ} {g : γ → Itm} {f : γ → MV} {target elt : Expr} (hl : l.length ≤ 16777216) (h : ∀ x ∈ l, TurnM prog w hb sc d σ0 target (g x) fun σ1 => Ev prog w hb sc d σ1 elt (f x) σ1.box) :
    Turns prog w hb sc d σ0 target [] (emE elt) (l.map g) (fun i => (l.take i).map f) := fun i x hx => by
  rw [List.getElem?_map] at hx
  obtain ⟨y, hy, rfl⟩ := Option.map_eq_some_iff.mp hx
  obtain ⟨e1, e2, e3⟩ := take_get hy
  obtain ⟨vs1, h1, h2, h3, h4⟩ := h y e2
  refine ⟨⟨vs1, σ0.box⟩, true, rfl, h1.get, h2, Tst.nil, fun _ => ?_, (by intro h; cases h), h3⟩
  dsimp only
  rw [e1, List.map_append]
  exact Emit.elt h4 (by rw [List.length_map, List.length_take]; omega)
theorem Turns.filter {γ : Type} {l : List γ} {g : γ → Itm} {f : γ → MV} {t : γ → Bool} {target elt c : Expr} (pre : List MV) (hl : pre.length + l.length ≤ 16777216) (h : ∀ x ∈ l, TurnM prog w hb sc d σ0 target (g x) fun σ1 => IsT prog w hb sc d σ1 c (t x) σ1.box ∧ (t x = true → Ev prog w hb sc d σ1 elt (f x) σ1.box)) :
    Turns prog w hb sc d σ0 target [c] (emE elt) (l.map g) (fun i => pre ++ ((l.take i).filter t).map f) := fun i x hx => by
  rw [List.getElem?_map] at hx
  obtain ⟨y, hy, rfl⟩ := Option.map_eq_some_iff.mp hx
  obtain ⟨e1, e2, e3⟩ := take_get hy
  obtain ⟨vs1, h1, h2, h3, h4, h5⟩ := h y e2
  refine ⟨⟨vs1, σ0.box⟩, t y, rfl, h1.get, h2, Tst.one h4, fun ht => ?_, fun ht => ?_, h3⟩
  · dsimp only
    rw [e1, List.filter_append, show [y].filter t = [y] by simp [ht], List.map_append, ← List.append_assoc]
    refine Emit.elt (h5 ht) ?_
    have := List.length_filter_le t (l.take i)
    rw [List.length_append, List.length_map]
    rw [List.length_take] at this
    omega
  · dsimp only
    rw [e1, List.filter_append, show [y].filter t = [] by simp [ht], List.append_nil]
theorem Turns.flat {γ : Type} {l : List γ} {g : γ → Itm} {F : γ → List MV} {target : Expr} {emit : Value → Env → Sem Unit} (h : ∀ i x, l[i]? = some x → TurnM prog w hb sc d σ0 target (g x) fun σ1 => Emit prog w hb sc d emit σ1 ((l.take i).flatMap F) ((l.take i).flatMap F ++ F x)) :
    Turns prog w hb sc d σ0 target [] emit (l.map g) (fun i => (l.take i).flatMap F) := fun i x hx => by
  rw [List.getElem?_map] at hx
  obtain ⟨y, hy, rfl⟩ := Option.map_eq_some_iff.mp hx
  obtain ⟨e1, e2, e3⟩ := take_get hy
  obtain ⟨vs1, h1, h2, h3, h4⟩ := h i y hy
  refine ⟨⟨vs1, σ0.box⟩, true, rfl, h1.get, h2, Tst.nil, fun _ => ?_, (by intro h; cases h), h3⟩
  dsimp only
  rw [e1, List.flatMap_append, show [y].flatMap F = F y by simp]
  exact h4

theorem EvL.comp_map {γ : Type} {l : List γ} {g : γ → Itm} {f : γ → MV} {elt target iter : Expr} {cscope : Scope} {cpos : Pos} {nms : List Str} {cv : List (Str × Slot)} (hit : Iter prog w hb sc d σ target iter (l.map g) β1) (hsc : scOk cscope sc nms = true) (hn : σ.vs.map (·.1) = nms) (hcv : CV cscope sc σ.vs cv) (hl : l.length ≤ 16777216)
    (h : ∀ x ∈ l, TurnM prog w hb (rlb cscope sc) d ⟨cv, β1⟩ target (g x) fun σ1 => Ev prog w hb (rlb cscope sc) d σ1 elt (f x) σ1.box) (hs : ∀ env x, foldedSetIterable iter env x = pure x) :
    EvL prog w hb sc d σ (.ListComp elt [⟨target, iter, [], 0⟩] cscope cpos) (l.map f) β1 := by
  have := EvL.comp (cpos := cpos) _ (TurnIs.single elt target iter [] cscope cpos) hit hsc hn hcv (by simp) (Turns.map hl h) hs
  simpa using this
theorem EvL.comp_filter {γ : Type} {l : List γ} {g : γ → Itm} {f : γ → MV} {t : γ → Bool} {elt target iter c : Expr} {cscope : Scope} {cpos : Pos} {nms : List Str} {cv : List (Str × Slot)} (hit : Iter prog w hb sc d σ target iter (l.map g) β1) (hsc : scOk cscope sc nms = true) (hn : σ.vs.map (·.1) = nms) (hcv : CV cscope sc σ.vs cv) (hl : l.length ≤ 16777216)
    (h : ∀ x ∈ l, TurnM prog w hb (rlb cscope sc) d ⟨cv, β1⟩ target (g x) fun σ1 => IsT prog w hb (rlb cscope sc) d σ1 c (t x) σ1.box ∧ (t x = true → Ev prog w hb (rlb cscope sc) d σ1 elt (f x) σ1.box)) (hs : ∀ env x, foldedSetIterable iter env x = pure x) :
    EvL prog w hb sc d σ (.ListComp elt [⟨target, iter, [c], 0⟩] cscope cpos) ((l.filter t).map f) β1 := by
  have := EvL.comp (cpos := cpos) _ (TurnIs.single elt target iter [c] cscope cpos) hit hsc hn hcv (by simp) (Turns.filter [] (by simpa using hl) h) hs
  simpa using this
theorem Ex1.assign_comp_map {γ : Type} {l : List γ} {g : γ → Itm} {f : γ → MV} {y : Str} {py spos : Pos} {elt target iter : Expr} {cscope : Scope} {cpos : Pos} {nms : List Str} {cv vs' : List (Str × Slot)} (hy : isSto sc y = true) (hit : Iter prog w hb sc d σ target iter (l.map g) β1) (hsc : scOk cscope sc nms = true) (hn : σ.vs.map (·.1) = nms) (hcv : CV cscope sc σ.vs cv) (hl : l.length ≤ 16777216)
    (h : ∀ x ∈ l, TurnM prog w hb (rlb cscope sc) d ⟨cv, β1⟩ target (g x) fun σ1 => Ev prog w hb (rlb cscope sc) d σ1 elt (f x) σ1.box) (hs : ∀ env x, foldedSetIterable iter env x = pure x) (p : Put σ.vs y (.own true (l.map f)) vs')
    (hsw : ∀ env : Env, env.scope = sc → swapsWith (.ListComp elt [⟨target, iter, [], 0⟩] cscope cpos) (some (.Name y py)) spos.line env = pure true) :
    Ex1 prog w hb sc d σ (.Assign [.Name y py] (.ListComp elt [⟨target, iter, [], 0⟩] cscope cpos) spos) (.nxt ⟨vs', β1⟩) :=
  Ex1.assign_comp _ hy (TurnIs.single elt target iter [] cscope cpos) hit hsc hn hcv (by simp) (Turns.map hl h) hs (by simpa using p) hsw
theorem Ex1.assign_comp_nest {γ : Type} {l : List γ} {g : γ → Itm} {F : γ → List MV} {y : Str} {py spos : Pos} {elt t1 i1 t2 i2 : Expr} {ifs2 : List Expr} {cscope : Scope} {cpos : Pos} {nms : List Str} {cv vs' : List (Str × Slot)} (hy : isSto sc y = true) (hit : Iter prog w hb sc d σ t1 i1 (l.map g) β1) (hsc : scOk cscope sc nms = true) (hn : σ.vs.map (·.1) = nms) (hcv : CV cscope sc σ.vs cv)
    (h : ∀ i x, l[i]? = some x → TurnM prog w hb (rlb cscope sc) d ⟨cv, β1⟩ t1 (g x) fun σ1 => Emit prog w hb (rlb cscope sc) d (emN (.ListComp elt [⟨t1, i1, [], 0⟩, ⟨t2, i2, ifs2, 0⟩] cscope cpos) i2) σ1 ((l.take i).flatMap F) ((l.take i).flatMap F ++ F x)) (hs : ∀ env x, foldedSetIterable i1 env x = pure x) (p : Put σ.vs y (.own true (l.flatMap F)) vs')
    (hsw : ∀ env : Env, env.scope = sc → swapsWith (.ListComp elt [⟨t1, i1, [], 0⟩, ⟨t2, i2, ifs2, 0⟩] cscope cpos) (some (.Name y py)) spos.line env = pure true) :
    Ex1 prog w hb sc d σ (.Assign [.Name y py] (.ListComp elt [⟨t1, i1, [], 0⟩, ⟨t2, i2, ifs2, 0⟩] cscope cpos) spos) (.nxt ⟨vs', β1⟩) :=
  Ex1.assign_comp _ hy (TurnIs.outer elt t1 i1 t2 i2 [] ifs2 cscope cpos) hit hsc hn hcv (by simp) (Turns.flat h) hs (by simpa using p) hsw
theorem Emit.filter {γ : Type} {l : List γ} {g : γ → Itm} {f : γ → MV} {t : γ → Bool} {elt t1 i1 t2 i2 c : Expr} {cscope : Scope} {cpos : Pos} (pre : List MV) (hit : Iter prog w hb sc d σ t2 i2 (l.map g) σ.box) (hl : pre.length + l.length ≤ 16777216)
    (h : ∀ x ∈ l, TurnM prog w hb sc d σ t2 (g x) fun σ1 => IsT prog w hb sc d σ1 c (t x) σ1.box ∧ (t x = true → Ev prog w hb sc d σ1 elt (f x) σ1.box)) (hs : ∀ env x, foldedSetIterable i2 env x = pure x) :
    Emit prog w hb sc d (emN (.ListComp elt [⟨t1, i1, [], 0⟩, ⟨t2, i2, [c], 0⟩] cscope cpos) i2) σ pre (pre ++ (l.filter t).map f) := by
  have := Emit.nest (t1 := t1) (i1 := i1) (ifs1 := []) (cscope := cscope) (cpos := cpos) _ hit (Turns.filter pre hl h) hs
  simpa using this
theorem Ex1.assign_own' {x : Str} {e : Expr} {p' pos : Pos} {xs : List MV} {vs' : List (Str × Slot)} (hx : isSto sc x = true) (h1 : EvL prog w hb sc d σ e xs β1) (p : Put σ.vs x (.own true xs) vs') (hs : ∀ env : Env, env.scope = sc → swapsWith e (some (.Name x p')) pos.line env = pure false) :
    Ex1 prog w hb sc d σ (.Assign [.Name x p'] e pos) (.nxt ⟨vs', β1⟩) := fun A C W s Q R K S k =>
  wpAny_Assign_Name (h1 A C W s _ R K S fun W1 s1 l o vs n t hn ho hc hd hr hg => by
    obtain ⟨m, cm, F⟩ := S.frm
    have F1 := F.step S t
    have S1 := S.step t
    have pr : Priv hb C W1 l := ⟨hg, (S.priv hn).k, (S.priv hn).b, by rw [t.lb]; exact (S.priv hn).l⟩
    refine wp_store (kindC K) S1 F1 (sto_kind K hx) p p.has ⟨l, o, vs, n, rfl, ho, hc, hd, hr, pr, ?_, ?_⟩ ?_ fun h' tk S' => k W1 _ _ ⟨rfl, S'⟩
    · rintro rfl
      obtain ⟨_, _, _, q, _⟩ := F.ns
      rw [hn] at q; cases q
    · rintro y c e rfl
      obtain ⟨_, q, _⟩ := F.cell y _ e
      rw [hn] at q; cases q
    · intro q ys l' e1 e2 y p' zs _ g e3
      cases e2
      obtain ⟨l'', _, _, _, q1, q2, _⟩ := F.var y _ g
      rw [e3] at q1; cases q1
      rw [hn] at q2; cases q2) (hs _ K.scope)
end
end Mine
end
section
open PySem PySem.Calls PyProof.Rows PySem.W
set_option Elab.async false
set_option maxRecDepth 100000
set_option linter.unusedVariables false
namespace Mine
section
variable {prog : Program} {w : World} {hb : Heap} {sc : Scope} {d d' : Nat} {σ σ' σ0 σ1 : Sg} {β β1 β2 β3 β' β'' : Bx}

theorem Cmp.eq_pair (a1 a2 b1 b2 : Int) : Cmp prog w .Eq (.tup [.int a1, .int a2]) (.tup [.int b1, .int b2]) (a1 == b1 && a2 == b2) := fun A hb W s β v1 v2 Q _ hu k r1 r2 h => by
  obtain ⟨l1, vs1, rfl, i1, q1⟩ := r1.isTup k
  obtain ⟨l2, vs2, rfl, i2, q2⟩ := r2.isTup k
  cases q1 with
  | cons x1 q1 => cases q1 with
    | cons x2 q1 => cases q1; cases q2 with
      | cons y1 q2 => cases q2 with
        | cons y2 q2 =>
          cases q2; cases x1; cases x2; cases y1; cases y2
          refine PySem.SeqAt.eq_tupleAt (e := fun j => if j = 0 then a1 == b1 else a2 == b2) i1 i2 (by omega) (fun j h1 h2 => ?_) ?_
          · have : j = 0 ∨ j = 1 := by simp at h1; omega
            rcases this with rfl | rfl
            · show PySem.SeqAt.EqAt A.in1 s (.int a1 _) (.int b1 _) (a1 == b1)
              exact @PySem.SeqAt.EqAt.int_int A.in1 s a1 _ b1 _
            · show PySem.SeqAt.EqAt A.in1 s (.int a2 _) (.int b2 _) (a2 == b2)
              exact @PySem.SeqAt.EqAt.int_int A.in1 s a2 _ b2 _
          · have e : ((List.range (min 2 2)).all (fun j => if j = 0 then a1 == b1 else a2 == b2) && (2 == 2)) = (a1 == b1 && a2 == b2) := by
              rw [show List.range (min 2 2) = [0, 1] from rfl]; simp
            exact e ▸ h
theorem Cmp.eq_nil (xs : List MV) : Cmp prog w .Eq (.list xs) (.list []) (xs.length == 0) := fun A hb W s β v1 v2 Q _ hu k r1 r2 h => by
  obtain ⟨l1, vs1, rfl, i1, q1⟩ := r1.isList k
  obtain ⟨l2, vs2, rfl, i2, q2⟩ := r2.isList k
  cases q2
  have hl := q1.length
  cases xs with
  | nil =>
    cases q1
    exact PySem.SeqAt.eq_listAt (e := fun _ => true) i1 i2 rfl (by omega) (fun j h1 => by simp at h1) h
  | cons x xs =>
    refine PySem.SeqAt.eq_list_lengthsAt i1 i2 ?_ (by omega) h
    simp at hl
    simp [hl]

/-! the box -/
theorem Ev.box1 {value slice : Expr} {pos : Pos} (h1 : Ev prog w hb sc d σ value .box β1) (h2 : Ev prog w hb sc d (σ.bx β1) slice (.int 1) β2) (hs : notSlice slice = true) : Ev prog w hb sc d σ (.Subscript value slice pos) (.int β2.2) β2 := fun A C W s Q R K S h =>
  Subscript_ (h1 A C W s _ R K S fun W1 s1 v1 t1 r1 => h2 A C W1 s1 _ R K (S.step t1) fun W2 s2 v2 t2 r2 => by
    cases r2
    cases r1 with
    | box hl =>
      obtain ⟨_, _, o, n, ls, t, g1, g2, g3, g4⟩ := (t2.okay (t1.okay S.ok)).box _ (by rw [t2.lb]; exact hl)
      have il : s2.heap.IsList _ #[.ref ls, .int β2.2 t] := ⟨o, g1, g2, n, g3⟩
      exact tail_any il.typeIs slot_list_getitem.lookup (wpAny_getItem_list il (by decide) (by decide) rfl (h W2 s2 _ (t1.trans t2) (.int _ _))) (subscripted_eq hs _ _))
theorem Ev.box0 {value slice : Expr} {pos : Pos} (h1 : Ev prog w hb sc d σ value .box β1) (h2 : Ev prog w hb sc d (σ.bx β1) slice (.int 0) β2) (hs : notSlice slice = true) : Ev prog w hb sc d σ (.Subscript value slice pos) (.list (β2.1.map .int)) β2 := fun A C W s Q R K S h =>
  Subscript_ (h1 A C W s _ R K S fun W1 s1 v1 t1 r1 => h2 A C W1 s1 _ R K (S.step t1) fun W2 s2 v2 t2 r2 => by
    cases r2
    cases r1 with
    | box hl =>
      obtain ⟨_, _, o, n, ls, t, g1, g2, g3, g4⟩ := (t2.okay (t1.okay S.ok)).box _ (by rw [t2.lb]; exact hl)
      have il : s2.heap.IsList _ #[.ref ls, .int β2.2 t] := ⟨o, g1, g2, n, g3⟩
      exact tail_any il.typeIs slot_list_getitem.lookup (wpAny_getItem_list il (by decide) (by decide) rfl (h W2 s2 _ (t1.trans t2) g4)) (subscripted_eq hs _ _))

theorem St.boxed {C : Ctx} {W : Wd} {s : Shared} {h' : Heap} {tk : Nat} {l ls : Addr} {y : Int} {t : Tok} (S : St hb C W σ s) (hl : W.lb = some l) (hs : Heap.SameBut l s.heap h') (il : h'.IsList l #[.ref ls, .int y t]) (r : RV W (.ref ls) (.list (σ.box.1.map .int))) :
    St hb C W ⟨σ.vs, (σ.box.1, y)⟩ { s with heap := h', toks := tk } := by
  obtain ⟨b1, b2, _⟩ := S.ok.box l hl
  have keep : ∀ b o, W.lb ≠ some b → s.heap.get? b = some o → h'.get? b = some o := fun b o q e => hs.extBut b o (fun z => q (z ▸ hl)) e
  have nl : ∀ a, W.lb ≠ some a → a ≠ l := fun a q z => q (z ▸ hl)
  obtain ⟨m, cm, F⟩ := S.frm
  refine ⟨⟨fun b o e => hs.extBut b o (by rintro rfl; rw [b1] at e; cases e) (S.ok.base b o e), fun b o e => hs.extBut b o (by rintro rfl; rw [b2] at e; cases e) (S.ok.frz b o e), fun a q => ?_⟩, ?_, fun b o e q => keep b o q (S.keep b o e q), S.le, S.new, ⟨m, cm, F.ns.at' fun o e => keep _ o S.privL.l e, ?_, ?_, F.has, F.uniq⟩, S.privL, S.privC, S.apart, S.lbe⟩
  · rw [hl] at q; cases q
    obtain ⟨o, g1, g2, n, g3⟩ := il
    exact ⟨b1, b2, o, n, ls, t, g1, g2, g3, r⟩
  · obtain ⟨h, t', e⟩ := S.same
    exact ⟨h', tk, by rw [e]⟩
  · intro z c e
    obtain ⟨o, ho, hd⟩ := F.cell z c e
    exact ⟨o, keep _ o (S.privC z c e).1.l ho, hd⟩
  · intro z sl g
    have q := F.var z sl g
    cases sl with
    | un => trivial
    | val x => exact q
    | own p xs =>
      obtain ⟨l', o, vs, n, e, h1, h2, h3, h4, h5, r'⟩ := q
      exact ⟨l', o, vs, n, e, keep _ o h5.l h1, h2, h3, h4, h5, r'⟩
/-- «box[1] = e» -/
theorem Ex1.box_set {value i e : Expr} {tpos pos : Pos} {y : Int} (h1 : Ev prog w hb sc d σ e (.int y) β1) (h2 : Ev prog w hb sc d (σ.bx β1) value .box β2) (h3 : Ev prog w hb sc d ((σ.bx β1).bx β2) i (.int 1) β3) (hs : ∀ env, swapsWith e (some (.Subscript value i tpos)) pos.line env = pure false) :
    Ex1 prog w hb sc d σ (.Assign [.Subscript value i tpos] e pos) (.nxt ⟨σ.vs, (β3.1, y)⟩) := fun A C W s Q R K S k' => by
  refine wpAny_Assign_Subscript (h1 A C W s _ R K S fun W1 s1 v1 t1 r1 => ?_) (hs _)
  refine h2 A C W1 s1 _ R K (S.step t1) fun W2 s2 v2 t2 r2 => ?_
  refine h3 A C W2 s2 _ R K ((S.step t1).step t2) fun W3 s3 v3 t3 r3 => ?_
  cases r3; cases r1
  have r2' := r2.mono t3.le t3.lb
  cases r2' with
  | box hl =>
    have S3 := ((S.step t1).step t2).step t3
    obtain ⟨_, _, o, n, ls, t, g1, g2, g3, g4⟩ := S3.ok.box _ hl
    have il : s3.heap.IsList _ #[.ref ls, .int β3.2 t] := ⟨o, g1, g2, n, g3⟩
    refine wpAny_setItem_list il (by decide) (by decide) (by simp) fun h' il' hs' => ?_
    exact k' W3 _ _ ⟨rfl, S3.boxed (tk := s3.toks) (σ := ⟨σ.vs, β3⟩) hl hs' il' g4⟩
end
end Mine
end
section
open PySem PySem.Calls PyProof.Rows PySem.W
set_option Elab.async false
set_option maxRecDepth 100000
set_option linter.unusedVariables false
namespace Mine
section
variable {prog : Program} {w : World} {hb : Heap} {sc : Scope} {d d' : Nat} {σ σ' σ0 σ1 : Sg} {β β1 β2 β3 β' β'' : Bx}

/-- an item of a global tuple of ints -/
def GlobInts (hb : Heap) (x : Str) (ns : List Int) : Prop := ∃ a vs, GlobIs hb x (.ref a) ∧ IsTup hb a vs.toArray ∧ IntsAre vs ns
theorem intsAre_get : ∀ {vs : List Value} {ns : List Int}, IntsAre vs ns → ∀ {i : Nat} {x : Int}, ns[i]? = some x → ∃ t, vs[i]? = some (.int x t)
  | _, _, .nil, i, x, e => by simp at e
  | _, _, .cons _ t h, 0, x, e => by simp at e; subst e; exact ⟨_, rfl⟩
  | _, _, .cons _ t h, i + 1, x, e => by
    obtain ⟨t', e'⟩ := intsAre_get h (i := i) (x := x) (by simpa using e)
    exact ⟨t', by simpa using e'⟩
theorem intsAre_len : ∀ {vs : List Value} {ns : List Int}, IntsAre vs ns → vs.length = ns.length
  | _, _, .nil => rfl
  | _, _, .cons _ _ h => by simp [intsAre_len h]
theorem Ev.glob_item {g : Str} {npos pos : Pos} {slice : Expr} {ns : List Int} {k : Int} {x : Int} (hf : isGlob sc g = true) (hg : GlobInts hb g ns) (h2 : Ev prog w hb sc d σ slice (.int k) β2) (hs : notSlice slice = true)
    (h0 : -(2 ^ 62) ≤ k) (hk : k ≤ 2 ^ 62) {j : Nat} (hj : seqIndex? k ns.length = some j) (hx : ns[j]? = some x) : Ev prog w hb sc d σ (.Subscript (.Name g npos) slice pos) (.int x) β2 := fun A C W s Q R K S h => by
  obtain ⟨a, vs, g1, g2, g3⟩ := hg
  refine Subscript_ (wp_glob K S.ok hf g1 (h2 A C W s _ R K S fun W2 s2 v2 t2 r2 => ?_))
  cases r2
  obtain ⟨o, e1, e2, n, e3⟩ := g2
  have il : IsTup s2.heap a vs.toArray := ⟨o, (t2.okay S.ok).base _ _ e1, e2, n, e3⟩
  obtain ⟨t, e⟩ := intsAre_get g3 hx
  exact item_tupleT il (by omega) (by omega) (by rw [intsAre_len g3]; exact hj) e (h W2 s2 _ t2 (.int _ _)) (subscripted_eq hs _ _)

/-! a run that gives True -/
def ExB (prog : Program) (w : World) (hb : Heap) (sc : Scope) (d : Nat) (σ : Sg) (ss : List Stmt) : Prop :=
  ∀ (A : Around) (C : Ctx) (W : Wd) (s : Shared) (Q : Flow → Shared → Prop), Room d A → CtxOk sc C → St hb C W σ s →
    (∀ h' tk, (∀ b o, hb.get? b = some o → h'.get? b = some o) → Q (.ret (.bool true)) { C.sh with heap := h', toks := tk }) → wpAny (model prog w) A (execs ss C.env) Q (fun _ _ => False) s
def ExN (prog : Program) (w : World) (hb : Heap) (sc : Scope) (d : Nat) (σ : Sg) (ss : List Stmt) : Prop :=
  ∀ (A : Around) (C : Ctx) (W : Wd) (s : Shared) (Q : Flow → Shared → Prop), Room d A → CtxOk sc C → C.lb = none → St hb C W σ s →
    (∀ h' tk, (∀ b o, hb.get? b = some o → h'.get? b = some o) → Q (.ret (.bool true)) { C.sh with heap := h', toks := tk }) → wpAny (model prog w) A (execs ss C.env) Q (fun _ _ => False) s
theorem ExB.of_ex {ss : List Stmt} (h : Ex prog w hb sc d σ ss (.ret (.bool true) β)) : ExB prog w hb sc d σ ss := fun A C W s Q R K S k => h A C W s Q R K S fun W' s' f l => by
  obtain ⟨v, σ', rfl, rv, S', _⟩ := l
  cases rv
  obtain ⟨h', tk, rfl⟩ := S'.same
  exact k h' tk S'.ok.base
theorem ExB.cons {st : Stmt} {ss : List Stmt} (h1 : Ex1 prog w hb sc d σ st (.nxt σ')) (h2 : ExB prog w hb sc d σ' ss) : ExB prog w hb sc d σ (st :: ss) := fun A C W s Q R K S h =>
  wpAny_execs_cons (h1 A C W s _ R K S fun W' s' f l => by
    obtain ⟨rfl, S'⟩ := l
    exact h2 A C W' s' Q R K S' h)
theorem ExN.cons {st : Stmt} {ss : List Stmt} (h1 : Ex1 prog w hb sc d σ st (.nxt σ')) (h2 : ExN prog w hb sc d σ' ss) : ExN prog w hb sc d σ (st :: ss) := fun A C W s Q R K N S h =>
  wpAny_execs_cons (h1 A C W s _ R K S fun W' s' f l => by
    obtain ⟨rfl, S'⟩ := l
    exact h2 A C W' s' Q R K N S' h)

mutual
theorem RV.lift {W : Wd} {l : Addr} (hn : W.lb = none) : ∀ {v x}, RV W v x → RV { W with lb := some l } v x
  | _, _, .none => .none
  | _, _, .bool b => .bool b
  | _, _, .int i t => .int i t
  | _, _, .list h1 h2 h3 h4 => .list h1 h2 h3 (RVs.lift hn h4)
  | _, _, .tup h1 h2 h3 h4 => .tup h1 h2 h3 (RVs.lift hn h4)
  | _, _, .box h => by rw [hn] at h; cases h
theorem RVs.lift {W : Wd} {l : Addr} (hn : W.lb = none) : ∀ {vs xs}, RVs W vs xs → RVs { W with lb := some l } vs xs
  | _, _, .nil => .nil
  | _, _, .cons h1 h2 => .cons (RV.lift hn h1) (RVs.lift hn h2)
end

theorem ExN.box {x : Str} {q : Bool} {ns : List Int} {k : Int} {vs' : List (Str × Slot)} {ss : List Stmt} (g : Get σ.vs x (.own q [.list (ns.map .int), .int k])) (p : Put σ.vs x (.val .box) vs') (h : ExB prog w hb sc d ⟨vs', (ns, k)⟩ ss) : ExN prog w hb sc d σ ss := fun A C W s Q R K N S hq => by
  obtain ⟨m, cm, F⟩ := S.frm
  have hn : W.lb = none := S.lbe.trans N
  obtain ⟨l, o, vs, n, e, o1, o2, o3, o4, o5, o6, o7⟩ := F.var x _ g
  have K' : CtxOk sc { C with lb := some l } := ⟨K.scope, K.kind, K.globals, K.builtins⟩
  have lift : ∀ {a}, Priv hb C W a → a ≠ l → Priv hb { C with lb := some l } { W with lb := some l } a := fun {a} p q => ⟨p.g, p.k, p.b, fun z => q (by cases z; rfl)⟩
  refine h A { C with lb := some l } { W with lb := some l } s Q R K' ?_ hq
  obtain ⟨vl⟩ := vs
  cases o4 with
  | cons r1 o4 => cases o4 with
    | cons r2 o4 =>
      cases o4
      cases r2
      rename_i v1 t
      obtain ⟨ls, vs1, rfl, _, _⟩ := r1.isList S.ok
      refine ⟨⟨S.ok.base, S.ok.frz, fun a z => ?_⟩, S.same, fun b o e _ => S.keep b o e (by rw [hn]; simp), S.le, S.new, ⟨m, cm, F.ns, F.cell, ?_, ?_, ?_⟩, lift S.privL (Ne.symm o6), fun y c e => ⟨lift (S.privC y c e).1 (Ne.symm (o7 y c e)), (S.privC y c e).2⟩, S.apart, rfl⟩
      · cases z
        exact ⟨o5.b, o5.g, o, n, ls, t, o1, o2.1, o3, RV.lift hn r1⟩
      · intro y sl gy
        rcases p.get gy with ⟨rfl, rfl⟩ | ⟨ny, gy⟩
        · exact ⟨_, e, .box rfl⟩
        · have qy := F.var y sl gy
          cases sl with
          | un => trivial
          | val z =>
            obtain ⟨v, e, r⟩ := qy
            exact ⟨v, e, RV.lift hn r⟩
          | own p' xs =>
            obtain ⟨l', o', vs', n', e', h1, h2, h3, h4, h5, h6, h7⟩ := qy
            refine ⟨l', o', vs', n', e', h1, h2, h3, RVs.lift hn h4, lift h5 ?_, h6, h7⟩
            rintro rfl
            exact ny (F.uniq y x _ _ _ _ l' gy g e' e)
      · intro y sl gy hk
        obtain ⟨u, gy⟩ := p.had gy
        exact F.has y u gy hk
      · intro y z p1 p2 ys zs l' g1 g2 e1 e2
        rcases p.get g1 with ⟨_, h⟩ | ⟨_, g1⟩
        · cases h
        · rcases p.get g2 with ⟨_, h⟩ | ⟨_, g2⟩
          · cases h
          · exact F.uniq y z _ _ ys zs l' g1 g2 e1 e2

theorem FnT.of_ex {name : Str} {params : Arguments} {body : List Stmt} {pm cd doc : Value} {a : Addr} {o : Obj} {names rest : List Str} {xs : List MV} (hlim : hb.NoLimit) (ho : hb.get? a = some o) (hdata : o.data = .func (docDef name params body sc pm cd doc)) (hcr : hb.CodeRec cd name)
    (hbind : ∀ vs : List Value, vs.length = xs.length → bindArgs (docDef name params body sc pm cd doc) ⟨vs, []⟩ = pure (names.zip vs)) (hlen : names.length = xs.length) (hnd : names.Nodup) (hst : (names ++ rest).all (isSto sc) = true)
    (hco : sc.isCoroutine = false) (hgen : sc.isGenerator = false) (hk : sc.kind = .function) (hx : ExN prog w hb sc d ⟨initS names xs rest, β⟩ body) {A : Around} {W : Wd} {s : Shared} {vs : List Value} {Q : Value → Shared → Prop} (R : Room (d + 1) A) (k : Okay hb W s β) (hlb : W.lb = none) (r : RVs W vs xs) (h : ∀ h' tk, (∀ b o, hb.get? b = some o → h'.get? b = some o) → Q (.bool true) { s with heap := h', toks := tk }) :
    wpAny (model prog w) A (call (.ref a) vs) Q (fun _ _ => False) s := by
  refine wpAny_call (codeAny_call_cells (fd := docDef name params body sc pm cd doc) (binds := names.zip vs) (by have := R.depth; omega) (k.base _ _ ho) hdata (hlim.keeps k.base) (hcr.keeps k.base) rfl (hbind vs r.length) rfl ?_ (fun s1 I => ?_) hco hgen hk)
  · intro z hz
    have hz' := (List.of_mem_zip hz).1
    have := List.all_eq_true.mp hst z.1 (List.mem_append_left _ hz')
    rcases isSto_or this with q | q
    · exact .inl q
    · exact .inr ⟨q, cellsFrom_some _ _ _ (.inl q)⟩
  generalize hE : callEnvC (docDef name params body sc pm cd doc) s.heap.objs.size a = env at I
  have hsc : env.scope = sc := by rw [← hE]; rfl
  have hLe : env.locals = s.heap.objs.size := by rw [← hE]; rfl
  have hce : env.cells = cellsFrom (s.heap.objs.size + 1) sc.names [] := by rw [← hE]; rfl
  let C : Ctx := { env := env, sh := s, K := s.heap.get?, G₀ := W.G, lb := W.lb }
  have K : CtxOk sc C := ⟨hsc, hk, by show env.globals = _; rw [← hE]; rfl, by show env.builtins = _; rw [← hE]; rfl⟩
  have pv : ∀ b, s.heap.get? b = none → Priv hb C W b := fun b q => ⟨k.gnone q, q, k.bnone q, k.lnone q⟩
  have keep := I.toInCall.keep
  have S : St hb C W ⟨initS names xs rest, β⟩ s1 := by
    refine ⟨⟨fun b o e => keep b o (k.base b o e), fun b o e => keep b o (k.frz b o e), ?_⟩, I.toInCall.same, fun b o e _ => keep b o e, fun b o e => e, fun b o e => .inl e, ⟨_, _, I.toInCall.ns, I.cell, ?_, ?_, ?_⟩, pv _ (by show s.heap.get? env.locals = none; rw [hLe]; exact none_size _), ?_, ?_, rfl⟩
    · intro b q
      obtain ⟨h1, h2, o', n, ls, t, h3, h4⟩ := k.box b q
      exact ⟨h1, h2, o', n, ls, t, keep b o' h3, h4⟩
    · intro y sl g
      rcases g.append with g | g
      · obtain ⟨i, z, h1, h2, rfl⟩ := g.zip
        obtain ⟨v, e, rv⟩ := r.get h2
        exact ⟨v, bind_at _ _ hnd h1 e, rv⟩
      · rw [g.uns.2]; trivial
    · intro y sl g hn
      have hy : isSto sc y = true := by
        rcases g.append with g | g
        · obtain ⟨i, z, h1, h2, _⟩ := g.zip
          exact List.all_eq_true.mp hst y (List.mem_append_left _ (List.mem_of_getElem? h1))
        · exact List.all_eq_true.mp hst y (List.mem_append_right _ g.uns.1)
      rcases isSto_or hy with q | q
      · exact absurd (by unfold Env.kindOf; rw [hsc]; exact q) hn
      · have := cellsFrom_some sc.names (s.heap.objs.size + 1) [] (.inl q)
        show ∃ c, env.cells.lookup y = some c
        rw [hce]
        exact Option.isSome_iff_exists.mp this
    · intro y z p q ys zs l g1 _ _ _
      rcases g1.append with g | g
      · obtain ⟨_, _, _, _, e⟩ := g.zip; cases e
      · have := g.uns.2; cases this
    · intro y c e
      have hc := I.above y c (mem_of_lookup e)
      rw [hLe] at hc
      refine ⟨pv c ?_, ?_⟩
      · cases q : s.heap.get? c with
        | none => rfl
        | some o => exact absurd (Heap.lt_size q) (Nat.not_lt.mpr (Nat.le_of_lt hc))
      · show c ≠ env.locals
        rw [hLe]; exact Nat.ne_of_gt hc
    · intro y z c e1 e2
      exact name_of_addr I.apart (mem_of_lookup e1) (mem_of_lookup e2)
  have R' : Room d (A.deeper env) := ⟨R.handled, by have := R.depth; show A.depth + 1 + d < _; omega, by have := R.units; show A.units + 3 + 8 * d + 100 < _; omega⟩
  exact wpAny_noRaise (hx (A.deeper env) C W s1 _ R' K hlb S fun h' tk hk => h h' tk hk)

end
end Mine
end
section
open PySem PySem.Calls PyProof.Rows PySem.W
set_option Elab.async false
set_option maxRecDepth 100000
set_option linter.unusedVariables false
namespace Mine
section
variable {prog : Program} {w : World} {hb : Heap} {sc : Scope} {d d' : Nat} {σ σ' σ0 σ1 : Sg} {β β1 β2 β3 β' β'' : Bx}
theorem FnK.of_ex {name : Str} {params : Arguments} {body : List Stmt} {pm cd doc : Value} {a : Addr} {o : Obj} {names rest : List Str} {xs : List MV} (hlim : hb.NoLimit) (ho : hb.get? a = some o) (hdata : o.data = .func (docDef name params body sc pm cd doc)) (hcr : hb.CodeRec cd name)
    (hbind : ∀ vs : List Value, vs.length = xs.length → bindArgs (docDef name params body sc pm cd doc) ⟨vs, []⟩ = pure (names.zip vs)) (hlen : names.length = xs.length) (hnd : names.Nodup) (hst : (names ++ rest).all (isSto sc) = true)
    (hco : sc.isCoroutine = false) (hgen : sc.isGenerator = false) (hk : sc.kind = .function) (hx : ExN prog w hb sc d ⟨initS names xs rest, β⟩ body) {A : Around} {W : Wd} {s : Shared} {vs : List Value} {RR : Result → Shared → Prop} (R : Room (d + 1) A) (k : Okay hb W s β) (hlb : W.lb = none) (r : RVs W vs xs) (h : ∀ h' tk, (∀ b o, hb.get? b = some o → h'.get? b = some o) → RR (.ok (.ret (.bool true))) { s with heap := h', toks := tk }) :
    codeAny (model prog w) A (.call (.ref a) ⟨vs, []⟩) RR s := by
  refine (codeAny_call_cells (fd := docDef name params body sc pm cd doc) (binds := names.zip vs) (by have := R.depth; omega) (k.base _ _ ho) hdata (hlim.keeps k.base) (hcr.keeps k.base) rfl (hbind vs r.length) rfl ?_ (fun s1 I => ?_) hco hgen hk)
  · intro z hz
    have hz' := (List.of_mem_zip hz).1
    have := List.all_eq_true.mp hst z.1 (List.mem_append_left _ hz')
    rcases isSto_or this with q | q
    · exact .inl q
    · exact .inr ⟨q, cellsFrom_some _ _ _ (.inl q)⟩
  generalize hE : callEnvC (docDef name params body sc pm cd doc) s.heap.objs.size a = env at I
  have hsc : env.scope = sc := by rw [← hE]; rfl
  have hLe : env.locals = s.heap.objs.size := by rw [← hE]; rfl
  have hce : env.cells = cellsFrom (s.heap.objs.size + 1) sc.names [] := by rw [← hE]; rfl
  let C : Ctx := { env := env, sh := s, K := s.heap.get?, G₀ := W.G, lb := W.lb }
  have K : CtxOk sc C := ⟨hsc, hk, by show env.globals = _; rw [← hE]; rfl, by show env.builtins = _; rw [← hE]; rfl⟩
  have pv : ∀ b, s.heap.get? b = none → Priv hb C W b := fun b q => ⟨k.gnone q, q, k.bnone q, k.lnone q⟩
  have keep := I.toInCall.keep
  have S : St hb C W ⟨initS names xs rest, β⟩ s1 := by
    refine ⟨⟨fun b o e => keep b o (k.base b o e), fun b o e => keep b o (k.frz b o e), ?_⟩, I.toInCall.same, fun b o e _ => keep b o e, fun b o e => e, fun b o e => .inl e, ⟨_, _, I.toInCall.ns, I.cell, ?_, ?_, ?_⟩, pv _ (by show s.heap.get? env.locals = none; rw [hLe]; exact none_size _), ?_, ?_, rfl⟩
    · intro b q
      obtain ⟨h1, h2, o', n, ls, t, h3, h4⟩ := k.box b q
      exact ⟨h1, h2, o', n, ls, t, keep b o' h3, h4⟩
    · intro y sl g
      rcases g.append with g | g
      · obtain ⟨i, z, h1, h2, rfl⟩ := g.zip
        obtain ⟨v, e, rv⟩ := r.get h2
        exact ⟨v, bind_at _ _ hnd h1 e, rv⟩
      · rw [g.uns.2]; trivial
    · intro y sl g hn
      have hy : isSto sc y = true := by
        rcases g.append with g | g
        · obtain ⟨i, z, h1, h2, _⟩ := g.zip
          exact List.all_eq_true.mp hst y (List.mem_append_left _ (List.mem_of_getElem? h1))
        · exact List.all_eq_true.mp hst y (List.mem_append_right _ g.uns.1)
      rcases isSto_or hy with q | q
      · exact absurd (by unfold Env.kindOf; rw [hsc]; exact q) hn
      · have := cellsFrom_some sc.names (s.heap.objs.size + 1) [] (.inl q)
        show ∃ c, env.cells.lookup y = some c
        rw [hce]
        exact Option.isSome_iff_exists.mp this
    · intro y z p q ys zs l g1 _ _ _
      rcases g1.append with g | g
      · obtain ⟨_, _, _, _, e⟩ := g.zip; cases e
      · have := g.uns.2; cases this
    · intro y c e
      have hc := I.above y c (mem_of_lookup e)
      rw [hLe] at hc
      refine ⟨pv c ?_, ?_⟩
      · cases q : s.heap.get? c with
        | none => rfl
        | some o => exact absurd (Heap.lt_size q) (Nat.not_lt.mpr (Nat.le_of_lt hc))
      · show c ≠ env.locals
        rw [hLe]; exact Nat.ne_of_gt hc
    · intro y z c e1 e2
      exact name_of_addr I.apart (mem_of_lookup e1) (mem_of_lookup e2)
  have R' : Room d (A.deeper env) := ⟨R.handled, by have := R.depth; show A.depth + 1 + d < _; omega, by have := R.units; show A.units + 3 + 8 * d + 100 < _; omega⟩
  exact wpAny_noRaise (hx (A.deeper env) C W s1 _ R' K hlb S fun h' tk hk => h h' tk hk)

end
end Mine
end
section
open PySem PySem.Calls PyProof.Rows PySem.W
set_option Elab.async false
set_option maxRecDepth 100000
set_option linter.unusedVariables false
set_option maxHeartbeats 0
namespace Mine
theorem Cmp.to {prog : Program} {w : World} {op : CmpOp} {x y : MV} {b b' : Bool} (h : Cmp prog w op x y b') (e : b' = b) : Cmp prog w op x y b := e ▸ h
local macro_rules | `(tactic| walk_at "get") => `(tactic| first
  | (with_reducible exact Get.here)
  | ((with_reducible refine' Get.there ?k1 ?k2); (case k1 => decide +kernel); (case k2 => walk_at "get")))
local macro_rules | `(tactic| walk_at "put") => `(tactic| first
  | (with_reducible exact Put.here)
  | ((with_reducible refine' Put.there ?k1 ?k2); (case k1 => decide +kernel); (case k2 => walk_at "put")))
local macro_rules | `(tactic| walk_at "puts") => `(tactic| first
  | (with_reducible exact Puts.nil)
  | ((with_reducible refine' Puts.cons ?k1 ?k2); (case k1 => walk_at "put"); (case k2 => walk_at "puts")))
local macro_rules | `(tactic| walk_at "side") => `(tactic| first
  | rfl | decide | omega | assumption
  | (constructor <;> omega)
  | (simp only [List.length_map, List.length_reverse, List.length_append, List.length_cons, List.length_nil, List.length_replicate, List.length_set, List.length_take, List.length_drop]; omega)
  | (simp only [List.length_map, List.length_reverse, List.length_append, List.length_cons, List.length_nil, List.length_replicate, List.length_set, List.length_take, List.length_drop] at *; omega))
local macro_rules | `(tactic| walk_at "bin") => `(tactic| first
  | (with_reducible exact Bin.add _ _) | (with_reducible exact Bin.sub _ _)
  | ((with_reducible refine' Bin.mod ?k1); (case k1 => walk_at "side"))
  | ((with_reducible refine' Bin.mul ?k1); (case k1 => walk_at "side"))
  | ((with_reducible apply Bin.floordiv) <;> walk_at "side")
  | ((with_reducible apply Bin.pow) <;> walk_at "side"))
local macro_rules | `(tactic| walk_at "cmp") => `(tactic| first
  | (with_reducible exact Cmp.eq_int _ _) | (with_reducible exact Cmp.ne_int _ _) | (with_reducible exact Cmp.lt_int _ _) | (with_reducible exact Cmp.gt_int _ _) | (with_reducible exact Cmp.le_int _ _) | (with_reducible exact Cmp.ge_int _ _)
  | ((with_reducible refine Cmp.to (Cmp.eq_int _ _) ?_); rfl) | ((with_reducible refine Cmp.to (Cmp.ne_int _ _) ?_); rfl) | ((with_reducible refine Cmp.to (Cmp.lt_int _ _) ?_); rfl) | ((with_reducible refine Cmp.to (Cmp.gt_int _ _) ?_); rfl) | ((with_reducible refine Cmp.to (Cmp.le_int _ _) ?_); rfl) | ((with_reducible refine Cmp.to (Cmp.ge_int _ _) ?_); rfl))
local macro_rules | `(tactic| walk_at "evs") => `(tactic| first
  | (with_reducible exact Evs.nil)
  | ((with_reducible refine' Evs.cons ?k1 ?k2 ?k3); (case k1 => walk_at "ev"); (case k2 => walk_at "evs"); (case k3 => rfl)))
local macro_rules | `(tactic| walk_at "evp") => `(tactic| first
  | (with_reducible exact EvP.no)
  | ((with_reducible refine' EvP.yes ?k1); (case k1 => walk_at "ev")))
local macro_rules | `(tactic| walk_at "pick") => `(tactic| first
  | (with_reducible exact Pick.rev _) | (with_reducible exact Pick.upto _ _) | (with_reducible exact Pick.from _ _)
  | ((with_reducible refine' Pick.uptoI ?k1 _); (case k1 => walk_at "side")))
local macro_rules | `(tactic| walk_at "evl") => `(tactic| first
 
  | ((with_reducible refine' EvL.list ?k1 ?k2); (case k1 => walk_at "evs"); (case k2 => walk_at "side"))
 
  | ((with_reducible refine' EvL.slice_step ?k1 ?k2 ?k3 ?k4 ?k5 ?k6 ?k7); (case k1 => walk_at "ev"); (case k2 => walk_at "evp"); (case k3 => walk_at "evp"); (case k4 => walk_at "ev"); (case k5 => decide); (case k6 => walk_at "pick"); (case k7 => walk_at "side"))
 
  | ((with_reducible refine' EvL.slice ?k1 ?k2 ?k3 ?k4 ?k5); (case k1 => walk_at "ev"); (case k2 => walk_at "evp"); (case k3 => walk_at "evp"); (case k4 => walk_at "pick"); (case k5 => walk_at "side"))
 
  | ((with_reducible refine' EvL.list_call ?k1 ?k2 ?k3 ?k4 ?k5); (case k1 => decide +kernel); (case k2 => exact Bs.list (by assumption)); (case k3 => rfl); (case k4 => walk_at "ev"); (case k5 => walk_at "side"))
 
  | ((with_reducible refine' EvL.mul ?k1 ?k2 ?k3 ?k4 ?k5); (case k1 => walk_at "ev"); (case k2 => walk_at "ev"); (case k3 => rfl); (case k4 => walk_at "side"); (case k5 => walk_at "side")))
local macro_rules | `(tactic| walk_at "fn") => `(tactic| with_reducible assumption)
local macro_rules | `(tactic| walk_at "ev") => `(tactic| first
  | (with_reducible exact Ev.int)
  | (with_reducible exact Ev.none_)
  | (with_reducible exact Ev.bool_)
 
  | ((with_reducible refine' Ev.name ?k1 ?k2); (case k1 => decide +kernel); (case k2 => walk_at "get"))
 
  | ((with_reducible refine' Ev.bin ?k1 ?k2 ?k3); (case k1 => walk_at "ev"); (case k2 => walk_at "ev"); (case k3 => walk_at "bin"))
 
  | ((with_reducible refine' Ev.neg ?k1); (case k1 => walk_at "ev"))
 
  | ((with_reducible refine' Ev.b_len_ints ?k1 ?k2 ?k3 ?k4 ?k5); (case k1 => exact Bs.len (by assumption)); (case k2 => decide +kernel); (case k3 => rfl); (case k4 => walk_at "ev"); (case k5 => walk_at "side"))
  | ((with_reducible refine' Ev.b_len ?k1 ?k2 ?k3 ?k4 ?k5); (case k1 => exact Bs.len (by assumption)); (case k2 => decide +kernel); (case k3 => rfl); (case k4 => walk_at "ev"); (case k5 => walk_at "side"))
 
  | ((with_reducible refine' Ev.b_abs ?k1 ?k2 ?k3 ?k4); (case k1 => exact Bs.abs (by assumption)); (case k2 => decide +kernel); (case k3 => rfl); (case k4 => walk_at "ev"))
 
  | ((with_reducible refine' Ev.b_max ?k1 ?k2 ?k3 ?k4 ?k5 ?k6); (case k1 => exact Bs.max (by assumption)); (case k2 => decide +kernel); (case k3 => rfl); (case k4 => rfl); (case k5 => walk_at "ev"); (case k6 => walk_at "ev"))
 
  | ((with_reducible refine' Ev.fn2 ?k1 ?k2 ?k3 ?k4 ?k5); (case k1 => decide +kernel); (case k2 => rfl); (case k3 => walk_at "evs"); (case k4 => walk_at "fn"); (case k5 => decide))
 
  | ((with_reducible refine' Ev.tup ?k1 ?k2); (case k1 => walk_at "evs"); (case k2 => walk_at "side"))
 
  | ((with_reducible refine' Ev.cmp ?k1 ?k2 ?k3 ?k4); (case k1 => walk_at "ev"); (case k2 => walk_at "ev"); (case k3 => walk_at "cmp"); (case k4 => rfl))
 
  | ((with_reducible refine' Ev.ite_t ?k1 ?k2 ?k3); (case k1 => walk_at "ist"); (case k2 => walk_at "cond"); (case k3 => walk_at "ev"))
 
  | ((with_reducible refine' Ev.ite_f ?k1 ?k2 ?k3); (case k1 => walk_at "ist"); (case k2 => walk_at "cond"); (case k3 => walk_at "ev"))
 
  | ((with_reducible refine' Ev.item_own ?k1 ?k2 ?k3 ?k4 ?k5 ?k6 ?k7); (case k1 => decide +kernel); (case k2 => walk_at "get"); (case k3 => walk_at "ev"); (case k4 => rfl); (case k5 => walk_at "side"); (case k6 => walk_at "side"); (case k7 => walk_at "idx"))
 
  | ((with_reducible refine' Ev.item_tup ?k1 ?k2 ?k3 ?k4 ?k5 ?k6 ?k7); (case k1 => walk_at "ev"); (case k2 => walk_at "ev"); (case k3 => rfl); (case k4 => decide); (case k5 => decide); (case k6 => rfl); (case k7 => rfl))
 
  | ((with_reducible refine' Ev.item ?k1 ?k2 ?k3 ?k4 ?k5 ?k6); (case k1 => walk_at "ev"); (case k2 => walk_at "ev"); (case k3 => rfl); (case k4 => walk_at "side"); (case k5 => walk_at "side"); (case k6 => walk_at "idx"))
 
  | ((with_reducible refine' Ev.item_neg ?k1 ?k2 ?k3 ?k4 ?k5 ?k6 ?k7); (case k1 => walk_at "ev"); (case k2 => walk_at "ev"); (case k3 => rfl); (case k4 => walk_at "side"); (case k5 => walk_at "side"); (case k6 => walk_at "side"); (case k7 => walk_at "idx"))
 
  | ((with_reducible refine' Ev.of_list ?k1); (case k1 => walk_at "evl")))
local macro_rules | `(tactic| walk_at "idx") => `(tactic| first
  | rfl | assumption)
local macro_rules | `(tactic| walk_at "cond") => `(tactic| first
  | rfl | assumption
  | (simp only [decide_eq_true_eq, decide_eq_false_iff_not, beq_iff_eq, bne_iff_ne, beq_eq_false_iff_ne, bne_eq_false_iff_eq, ne_eq]; omega))
local macro_rules | `(tactic| walk_at "ist") => `(tactic| first
 
  | ((with_reducible refine' IsT.cmp ?k1 ?k2 ?k3 ?k4); (case k1 => walk_at "ev"); (case k2 => walk_at "ev"); (case k3 => walk_at "cmp"); (case k4 => rfl))
 
  | ((with_reducible refine' IsT.not ?k1); (case k1 => walk_at "ist"))
 
  | ((with_reducible refine' IsT.of_bool ?k1 ?k2 ?k3); (case k1 => walk_at "ev"); (case k2 => intro _ _); (case k3 => rfl)))
local macro_rules | `(tactic| walk_at "iter") => `(tactic| first
 
  | ((with_reducible refine' Iter.range1 ?k1 ?k2 ?k3 ?k4 ?k5 ?k6); (case k1 => decide +kernel); (case k2 => exact Bs.range (by assumption)); (case k3 => rfl); (case k4 => walk_at "ev"); (case k5 => walk_at "side"); (case k6 => walk_at "side"))
 
  | ((with_reducible refine' Iter.range2 ?k1 ?k2 ?k3 ?k4 ?k5 ?k6 ?k7 ?k8 ?k9 ?k10); (case k1 => decide +kernel); (case k2 => exact Bs.range (by assumption)); (case k3 => rfl); (case k4 => rfl); (case k5 => walk_at "ev"); (case k6 => walk_at "ev"); (case k7 => walk_at "side"); (case k8 => walk_at "side"); (case k9 => walk_at "side"); (case k10 => walk_at "side"))
 
  | ((with_reducible refine' Iter.range_down ?k1 ?k2 ?k3 ?k4 ?k5 ?k6 ?k7 ?k8 ?k9 ?k10 ?k11 ?k12); (case k1 => decide +kernel); (case k2 => exact Bs.range (by assumption)); (case k3 => rfl); (case k4 => rfl); (case k5 => rfl); (case k6 => walk_at "ev"); (case k7 => walk_at "ev"); (case k8 => walk_at "ev"); (case k9 => walk_at "side"); (case k10 => walk_at "side"); (case k11 => walk_at "side"); (case k12 => walk_at "side"))
 
  | ((with_reducible refine' Iter.enum ?k1 ?k2 ?k3 ?k4); (case k1 => decide +kernel); (case k2 => exact Bs.enumerate (by assumption)); (case k3 => rfl); (case k4 => walk_at "ev"))
 
  | ((with_reducible refine' Iter.list ?k1); (case k1 => walk_at "ev")))
local macro_rules | `(tactic| walk_at "st") => `(tactic| first
 
  | ((with_reducible refine' Ex1.assign ?k1 ?k2 ?k3 ?k4); (case k1 => decide +kernel); (case k2 => walk_at "ev"); (case k3 => walk_at "put"); (case k4 => (intro _; rfl)))
 
  | ((with_reducible refine' Ex1.assign_tup2 ?k1 ?k2 ?k3 ?k4 ?k5 ?k6 ?k7); (case k1 => walk_at "ev"); (case k2 => decide +kernel); (case k3 => decide +kernel); (case k4 => walk_at "put"); (case k5 => walk_at "put"); (case k6 => (intro _; rfl)); (case k7 => (intro env h; cases env; cases h; kernel_rfl!)))
  | ((with_reducible refine' Ex1.assign_tup3 ?k1 ?k2 ?k3 ?k4 ?k5 ?k6 ?k7 ?k8 ?k9); (case k1 => walk_at "ev"); (case k2 => decide +kernel); (case k3 => decide +kernel); (case k4 => decide +kernel); (case k5 => walk_at "put"); (case k6 => walk_at "put"); (case k7 => walk_at "put"); (case k8 => (intro _; rfl)); (case k9 => (intro env h; cases env; cases h; kernel_rfl!)))
  | ((with_reducible refine' Ex1.assign_three ?k1 ?k2 ?k3 ?k4 ?k5 ?k6 ?k7 ?k8 ?k9); (case k1 => walk_at "ev"); (case k2 => decide +kernel); (case k3 => decide +kernel); (case k4 => decide +kernel); (case k5 => walk_at "put"); (case k6 => walk_at "put"); (case k7 => walk_at "put"); (case k8 => (intro _; rfl)); (case k9 => (intro env h; cases env; cases h; kernel_rfl!)))
 
  | ((with_reducible refine' Ex1.setitem ?k1 ?k2 ?k3 ?k4 ?k5 ?k6 ?k7 ?k8 ?k9); (case k1 => decide +kernel); (case k2 => walk_at "get"); (case k3 => walk_at "ev"); (case k4 => walk_at "ev"); (case k5 => walk_at "side"); (case k6 => walk_at "side"); (case k7 => walk_at "side"); (case k8 => walk_at "put"); (case k9 => (intro _; rfl)))
 
  | ((with_reducible refine' Ex1.append ?k1 ?k2 ?k3 ?k4 ?k5 ?k6 ?k7 ?k8); (case k1 => decide +kernel); (case k2 => walk_at "get"); (case k3 => walk_at "ev"); (case k4 => walk_at "put"); (case k5 => walk_at "side"); (case k6 => rfl); (case k7 => decide +kernel); (case k8 => decide +kernel))
 
  | ((with_reducible refine' Ex1.Return ?k1); (case k1 => walk_at "ev")))
local macro_rules | `(tactic| walk_at "own") => `(tactic| ((with_reducible refine' Ex1.assign_own ?k1 ?k2 ?k3 ?k4); (case k1 => decide +kernel); (case k2 => walk_at "evl"); (case k3 => walk_at "put"); (case k4 => (intro _; rfl))))
local macro_rules | `(tactic| walk_at "go") => `(tactic| (apply Ex.cons
                                                          · walk_at "st"))
local macro_rules | `(tactic| walk_at "asg") => `(tactic| first
  | ((with_reducible refine' Asg.name ?k1 ?k2); (case k1 => decide +kernel); (case k2 => walk_at "put"))
  | ((with_reducible refine' Asg.pair ?k1 ?k2 ?k3 ?k4); (case k1 => decide +kernel); (case k2 => decide +kernel); (case k3 => walk_at "put"); (case k4 => walk_at "put")))
local macro_rules | `(tactic| walk_at "wk") => `(tactic| repeat (first | (with_reducible exact Wk.nil) | exact Wk.same rfl (by assumption) | refine Wk.same rfl ?_ | refine Wk.drop ?_ | (refine Wk.same ?h1 ?h2; case h1 => (simp only [*, cond_true, cond_false, List.map_append, List.map_cons, List.map_nil, List.map_set, List.map_replicate, Int.toNat_natCast]; done))))
local macro_rules | `(tactic| walk_at "done") => `(tactic| (apply Ex.done; walk_at "wk"))
local macro_rules | `(tactic| walk_at "cv") => `(tactic| first
  | (with_reducible exact CV.nil)
  | ((with_reducible refine' CV.loc ?k1 ?k2); (case k1 => decide +kernel); (case k2 => walk_at "cv"))
  | ((with_reducible refine' CV.free ?k1 ?k2 ?k3); (case k1 => decide +kernel); (case k2 => walk_at "get"); (case k3 => walk_at "cv")))
local macro_rules | `(tactic| walk_at "asgl") => `(tactic| first
  | ((with_reducible refine' AsgL.name ?k1 ?k2); (case k1 => decide +kernel); (case k2 => walk_at "put"))
  | ((with_reducible refine' AsgL.pair ?k1 ?k2 ?k3 ?k4); (case k1 => decide +kernel); (case k2 => decide +kernel); (case k3 => walk_at "put"); (case k4 => walk_at "put")))
variable {prog : Program} {w : World} {hb : Heap} {β : Bx}
section
theorem fmod_sm {a p : Int} (hp : 0 < p) : 0 ≤ a.fmod p ∧ a.fmod p < p := ⟨Int.fmod_nonneg_of_pos a hp, Int.fmod_lt_of_pos a hp⟩

def matV (x p : Int) (ns : List Int) : Int := ns.reverse.foldl (fun a n => (a * x + n).fmod p) 0
theorem mat_fn (B : Bs hb) {x p : Int} {ns : List Int} (hp : 0 < p) (hp2 : p ≤ 1000) (hl : ns.length ≤ 1000) : Fn prog w hb 1 "mat" [.list (ns.map .int), .int x, .int p] β (.int (matV x p ns)) β := by
  refine Fn.of_ex (names := ["a", "x", "p"]) (rest := ["found", "number"]) (B.at 14 (by decide) _ (by decide +kernel)) B.lim (fun pm cd doc vs h => ?_) rfl (by decide +kernel) (by decide +kernel) (by decide +kernel) (by decide +kernel) (by decide +kernel) ?_
  · match vs, h with
    | [a0, a1, a2], _ => kernel_rfl!
  show Ex prog w hb (scF 14) 0 ⟨[("a", .val _), ("x", .val _), ("p", .val _), ("found", .un), ("number", .un)], β⟩ (boF 14) _
  walk_at "go"
  apply Ex.cons
  · refine Ex1.for_fold (l := ns.reverse) (g := fun n => .one (.int n)) (a0 := (0 : Int)) (fun a => ⟨[("a", .val (.list (ns.map .int))), ("x", .val (.int x)), ("p", .val (.int p)), ("found", .val (.int a)), ("number", .un)], β⟩) (fun a n => (a * x + n).fmod p) (fun a _ => 0 ≤ a ∧ a < p) ?_ rfl ⟨by omega, hp⟩ ?_ (fun _ _ => rfl)
    · rw [show List.map (fun n => Itm.one (MV.int n)) ns.reverse = (ns.map MV.int).reverse.map .one by simp]
      walk_at "iter"
    · intro a n r ⟨ha, hb'⟩
      apply turn_of
      · walk_at "asg"
      · walk_at "go"
        walk_at "done"
      · exact fmod_sm hp
  · apply Ex.ret
    unfold matV
    walk_at "st"

/-- the state of power_mod's loop: found, square, n -/
def pmF (m : Int) (s : Int × Int × Int) : Int × Int × Int := (bif s.2.2.fmod 2 == 1 then (s.1 * s.2.1).fmod m else s.1, (s.2.1 * s.2.1).fmod m, s.2.2.fdiv 2)
def pmT (s : Int × Int × Int) : Bool := decide (s.2.2 > 0)
def pmV (a n m : Int) : Int := (whV pmT (pmF m) 10 ((1 : Int).fmod m, a.fmod m, n)).1
theorem pm_end (m : Int) : ∀ (k : Nat) (s : Int × Int × Int), s.2.2 < 2 ^ k → pmT (whV pmT (pmF m) k s) = false := by
  intro k
  induction k with
  | zero => intro s h; simp [whV, pmT]; omega
  | succ k ih =>
    intro s h
    unfold whV
    split
    · refine ih _ ?_
      simp only [pmF]
      rw [Int.fdiv_eq_ediv_of_nonneg _ (by decide)]
      have : (2 : Int) ^ (k + 1) = 2 ^ k * 2 := Int.pow_succ ..
      omega
    · rename_i q; simpa using q
theorem power_mod_fn (B : Bs hb) {a n m : Int} (hm : 0 < m) (hm2 : m ≤ 1000) (hn : n < 1024) : Fn prog w hb 1 "power_mod" [.int a, .int n, .int m] β (.int (pmV a n m)) β := by
  refine Fn.of_ex (names := ["a", "n", "m"]) (rest := ["found", "square"]) (B.at 1 (by decide) _ (by decide +kernel)) B.lim (fun pm cd doc vs h => ?_) rfl (by decide +kernel) (by decide +kernel) (by decide +kernel) (by decide +kernel) (by decide +kernel) ?_
  · match vs, h with
    | [a0, a1, a2], _ => kernel_rfl!
  show Ex prog w hb (scF 1) 0 ⟨[("a", .val _), ("n", .val _), ("m", .val _), ("found", .un), ("square", .un)], β⟩ (boF 1) _
  walk_at "go"
  apply Ex.cons
  · refine Ex1.while_run (fun s => ⟨[("a", .val (.int a)), ("n", .val (.int s.2.2)), ("m", .val (.int m)), ("found", .val (.int s.1)), ("square", .val (.int s.2.1))], β⟩) pmT (pmF m) (fun s => (0 ≤ s.1 ∧ s.1 < m) ∧ 0 ≤ s.2.1 ∧ s.2.1 < m) ?_ ?_ 10 ((1 : Int).fmod m, a.fmod m, n) ⟨fmod_sm hm, fmod_sm hm⟩ (pm_end m 10 _ (by simpa using hn))
    · rintro ⟨f, q, n⟩ ⟨⟨h1, h2⟩, h3, h4⟩
      dsimp only at *
      walk_at "ist"
    · rintro ⟨f, q, n⟩ ⟨⟨h1, h2⟩, h3, h4⟩ _
      dsimp only [pmF] at *
      cases hc : n.fmod 2 == 1
      · refine ⟨?_, ⟨h1, h2⟩, fmod_sm hm⟩
        apply Ex.cons
        · apply Ex1.if_f
          · walk_at "ist"
          · walk_at "cond"
          · exact Ex.nil
        walk_at "go"
        walk_at "go"
        walk_at "done"
      · refine ⟨?_, fmod_sm hm, fmod_sm hm⟩
        apply Ex.cons
        · apply Ex1.if_t
          · walk_at "ist"
          · walk_at "cond"
          · apply Ex.one
            walk_at "st"
        walk_at "go"
        walk_at "go"
        walk_at "done"
  · apply Ex.ret
    unfold pmV
    walk_at "st"
end
section
abbrev T6 := Int × Int × Int × Int × Int × Int
def exF (s : T6) : T6 := match s with
  | (a0, a1, a2, b0, b1, b2) => (b0, b1, b2, a0 - a0.fdiv b0 * b0, a1 - a0.fdiv b0 * b1, a2 - a0.fdiv b0 * b2)
def exT (s : T6) : Bool := s.2.2.2.1 != 0
def exV (a b : Int) : T6 := whV exT exF 10 (a, 1, 0, b, 0, 1)
theorem extended_fn (B : Bs hb) {a b : Int} (ha : 0 ≤ a) (ha2 : a < 1000) (hb0 : 0 ≤ b) (hb2 : b < 1000) (he : (exV a b).2.2.2.1 = 0) (hg : 0 ≤ (exV a b).1) : Fn prog w hb 1 "extended" [.int a, .int b] β (.tup [.int (exV a b).1, .int (exV a b).2.1, .int (exV a b).2.2.1]) β := by
  have he2 : exT (exV a b) = false := by simp [exT, he]
  refine Fn.of_ex (names := ["a", "b"]) (rest := ["one", "other", "times", "rest"]) (B.at 0 (by decide) _ (by decide +kernel)) B.lim (fun pm cd doc vs h => ?_) rfl (by decide +kernel) (by decide +kernel) (by decide +kernel) (by decide +kernel) (by decide +kernel) ?_
  · match vs, h with
    | [a0, a1], _ => kernel_rfl!
  show Ex prog w hb (scF 0) 0 ⟨[("a", .val _), ("b", .val _), ("one", .un), ("other", .un), ("times", .un), ("rest", .un)], β⟩ (boF 0) _
  walk_at "go"
  apply Ex.cons
  · refine Ex1.while_run (fun (s : T6) => ⟨[("a", .val (.int a)), ("b", .val (.int b)), ("one", .val (.tup [.int s.1, .int s.2.1, .int s.2.2.1])), ("other", .val (.tup [.int s.2.2.2.1, .int s.2.2.2.2.1, .int s.2.2.2.2.2])), ("times", .un), ("rest", .un)], β⟩) exT exF (fun s => (0 ≤ s.1 ∧ s.1 < 1000) ∧ 0 ≤ s.2.2.2.1 ∧ s.2.2.2.1 < 1000) ?_ ?_ 10 (a, 1, 0, b, 0, 1) ⟨⟨ha, ha2⟩, hb0, hb2⟩ he2
    · rintro ⟨a0, a1, a2, b0, b1, b2⟩ ⟨⟨h1, h2⟩, h3, h4⟩
      dsimp only at *
      walk_at "ist"
    · rintro ⟨a0, a1, a2, b0, b1, b2⟩ ⟨⟨h1, h2⟩, h3, h4⟩ hn
      simp only [exT, bne_iff_ne, ne_eq] at hn
      dsimp only [exF] at *
      have hf := fmod_sm (a := a0) (show 0 < b0 by omega)
      have hm : a0 - a0.fdiv b0 * b0 = a0.fmod b0 := by have := Int.fmod_add_fdiv_mul a0 b0; omega
      have hq : 0 ≤ a0.fdiv b0 := Int.fdiv_nonneg h1 h3
      have hq2 : a0.fdiv b0 ≤ a0 := by
        rw [Int.fdiv_eq_ediv_of_nonneg _ h3]; exact Int.ediv_le_self _ h1
      refine ⟨?_, ⟨h3, h4⟩, by omega, by omega⟩
      walk_at "go"
      walk_at "go"
      walk_at "go"
      walk_at "done"
  · apply Ex.ret
    apply Ex1.Return
    unfold exV at hg ⊢
    apply Ev.ite_t
    · walk_at "ist"
    · exact decide_eq_true hg
    · walk_at "ev"

def opM : Option Int → MV
  | some i => .int i
  | none => .none
def invV (a m : Int) : Option Int := bif (exV (a.fmod m) m).1 == 1 then some ((exV (a.fmod m) m).2.1.fmod m) else none
theorem inv_ok : ∀ m : Nat, m < 14 → ∀ a : Nat, a < m → (exV a m).2.2.2.1 = 0 ∧ 0 ≤ (exV a m).1 := by decide +kernel
theorem inverse_mod_fn (B : Bs hb) {a m : Int} (hm : 0 < m) (hm2 : m < 14) : Fn prog w hb 2 "inverse_mod" [.int a, .int m] β (opM (invV a m)) β := by
  have hf := fmod_sm (a := a) hm
  have ho := inv_ok m.toNat (by omega) (a.fmod m).toNat (by omega)
  rw [Int.toNat_of_nonneg hf.1, Int.toNat_of_nonneg (by omega)] at ho
  have F := extended_fn (prog := prog) (w := w) (β := β) B hf.1 (show a.fmod m < 1000 by omega) (show 0 ≤ m by omega) (by omega) ho.1 ho.2
  refine Fn.of_ex (names := ["a", "m"]) (rest := ["g", "s", "t"]) (B.at 2 (by decide) _ (by decide +kernel)) B.lim (fun pm cd doc vs h => ?_) rfl (by decide +kernel) (by decide +kernel) (by decide +kernel) (by decide +kernel) (by decide +kernel) ?_
  · match vs, h with
    | [a0, a1], _ => kernel_rfl!
  show Ex prog w hb (scF 2) 1 ⟨[("a", .val _), ("m", .val _), ("g", .un), ("s", .un), ("t", .un)], β⟩ (boF 2) _
  walk_at "go"
  apply Ex.ret
  apply Ex1.Return
  unfold invV
  cases hc : (exV (a.fmod m) m).1 == 1
  · apply Ev.ite_f
    · walk_at "ist"
    · walk_at "cond"
    · dsimp only [cond_false, opM]
      walk_at "ev"
  · apply Ev.ite_t
    · walk_at "ist"
    · walk_at "cond"
    · dsimp only [cond_true, opM]
      walk_at "ev"
end
section
/-! mtrim -/
def mtT (xs : List Int) (k : Nat) : Bool := decide (k > 0) && (xs.getD (k - 1) 1 == 0)
def mtV (xs : List Int) : List Int := xs.take (whV (mtT xs) Nat.pred xs.length xs.length)
theorem mt_end (xs : List Int) : ∀ n k, k ≤ n → mtT xs (whV (mtT xs) Nat.pred n k) = false
  | 0, k, h => by have : k = 0 := by omega
                  subst this; rfl
  | n + 1, k, h => by
    unfold whV
    split
    · exact mt_end xs n _ (by rw [Nat.pred_eq_sub_one]; omega)
    · rename_i q; simpa using q
theorem mtrim_fn (B : Bs hb) {xs : List Int} (hl : xs.length ≤ 1000) : Fn prog w hb 1 "mtrim" [.list (xs.map .int)] β (.list ((mtV xs).map .int)) β := by
  refine Fn.of_ex (names := ["a"]) (rest := ["many"]) (B.at 3 (by decide) _ (by decide +kernel)) B.lim (fun pm cd doc vs h => ?_) rfl (by decide +kernel) (by decide +kernel) (by decide +kernel) (by decide +kernel) (by decide +kernel) ?_
  · match vs, h with
    | [a0], _ => kernel_rfl!
  show Ex prog w hb (scF 3) 0 ⟨[("a", .val _), ("many", .un)], β⟩ (boF 3) _
  walk_at "go"
  apply Ex.cons
  · refine Ex1.while_run (fun (k : Nat) => ⟨[("a", .val (.list (xs.map .int))), ("many", .val (.int k))], β⟩) (mtT xs) Nat.pred (fun k => k ≤ xs.length) ?_ ?_ xs.length xs.length (Nat.le_refl _) (mt_end xs _ _ (Nat.le_refl _))
    · intro k hk
      unfold mtT
      rw [show decide (k > 0) = decide ((k : Int) > 0) by simp]
      apply IsT.and2
      · walk_at "ist"
      · intro h0
        have h0' : 0 < k := by simpa using h0
        have hget : (xs.map MV.int)[((k : Int) - 1).toNat]? = some (.int (xs.getD (k - 1) 1)) := by
          rw [List.getElem?_map, show ((k : Int) - 1).toNat = k - 1 by omega, List.getElem?_eq_getElem (by omega), List.getD_eq_getElem?_getD, List.getElem?_eq_getElem (by omega)]; rfl
        walk_at "ist"
    · intro k hk hn
      have h0 : 0 < k := by
        simp only [mtT, Bool.and_eq_true, decide_eq_true_eq] at hn; exact hn.1
      refine ⟨?_, by rw [Nat.pred_eq_sub_one]; omega⟩
      rw [show ((Nat.pred k : Nat) : Int) = (k : Int) - 1 by rw [Nat.pred_eq_sub_one]; omega]
      walk_at "go"
      walk_at "done"
  · apply Ex.ret
    unfold mtV
    rw [List.map_take]
    walk_at "st"
end
section
local macro_rules | `(tactic| walk_at "fn") => `(tactic| assumption)
theorem mdegree_fn (B : Bs hb) {xs : List Int} (hl : xs.length ≤ 1000) : Fn prog w hb 1 "mdegree" [.list (xs.map .int)] β (.int ((xs.length : Int) - 1)) β := by
  refine Fn.of_ex (names := ["a"]) (rest := []) (B.at 4 (by decide) _ (by decide +kernel)) B.lim (fun pm cd doc vs h => ?_) rfl (by decide +kernel) (by decide +kernel) (by decide +kernel) (by decide +kernel) (by decide +kernel) ?_
  · match vs, h with
    | [a0], _ => kernel_rfl!
  show Ex prog w hb (scF 4) 0 ⟨[("a", .val _)], β⟩ (boF 4) _
  apply Ex.ret
  walk_at "st"

def maddL (a b : List Int) (p : Int) : List Int := (List.range (max a.length b.length)).map fun i => (a.getD i 0 + b.getD i 0).fmod p
def maddV (a b : List Int) (p : Int) : List Int := mtV (maddL a b p)
theorem madd_fn (B : Bs hb) {a b : List Int} {p : Int} (hp : 0 < p) (ha : a.length ≤ 500) (hb' : b.length ≤ 500) : Fn prog w hb 2 "madd" [.list (a.map .int), .list (b.map .int), .int p] β (.list ((maddV a b p).map .int)) β := by
  have F := mtrim_fn (prog := prog) (w := w) (β := β) B (xs := maddL a b p) (by simp [maddL]; omega)
  refine Fn.of_ex (names := ["a", "b", "p"]) (rest := ["found", "at"]) (B.at 5 (by decide) _ (by decide +kernel)) B.lim (fun pm cd doc vs h => ?_) rfl (by decide +kernel) (by decide +kernel) (by decide +kernel) (by decide +kernel) (by decide +kernel) ?_
  · match vs, h with
    | [a0, a1, a2], _ => kernel_rfl!
  show Ex prog w hb (scF 5) 1 ⟨[("a", .val _), ("b", .val _), ("p", .val _), ("found", .un), ("at", .un)], β⟩ (boF 5) _
  apply Ex.cons
  · walk_at "own"
  apply Ex.cons
  · refine Ex1.for_fold (l := List.range (max a.length b.length)) (g := fun i => .one (.int (i : Nat))) (a0 := ([] : List Int)) (fun acc => ⟨[("a", .val (.list (a.map .int))), ("b", .val (.list (b.map .int))), ("p", .val (.int p)), ("found", .own true (acc.map .int)), ("at", .un)], β⟩) (fun acc i => acc ++ [(a.getD i 0 + b.getD i 0).fmod p]) (fun acc r => acc.length + r.length ≤ 1000) ?_ rfl ?_ ?_ (fun _ _ => rfl)
    · apply Iter.cast
      · walk_at "iter"
      · rw [rg_list]
        congr 2
        split <;> omega
    · simp; omega
    · intro acc i r hi
      simp only [List.length_cons] at hi
      apply turn_of
      · walk_at "asg"
      · apply Ex.cons
        · apply Ex1.append
          · decide +kernel
          · walk_at "get"
          · apply Ev.bin
            · apply Ev.bin
              · apply Ev.ite (c := decide ((i : Int) < a.length)) (x := .int (a.getD i 0))
                · walk_at "ist"
                · intro h
                  rw [decide_eq_true_eq] at h
                  have hx := ints_get (a := a) (i := i) (k := i) (by omega) rfl
                  walk_at "ev"
                · intro h
                  rw [show a.getD i 0 = 0 by rw [List.getD_eq_getElem?_getD, List.getElem?_eq_none (by simp at h; omega)]; rfl]
                  walk_at "ev"
              · apply Ev.ite (c := decide ((i : Int) < b.length)) (x := .int (b.getD i 0))
                · walk_at "ist"
                · intro h
                  rw [decide_eq_true_eq] at h
                  have hx := ints_get (a := b) (i := i) (k := i) (by omega) rfl
                  walk_at "ev"
                · intro h
                  rw [show b.getD i 0 = 0 by rw [List.getD_eq_getElem?_getD, List.getElem?_eq_none (by simp at h; omega)]; rfl]
                  walk_at "ev"
              · walk_at "bin"
            · walk_at "ev"
            · walk_at "bin"
          · walk_at "put"
          · walk_at "side"
          · rfl
          · decide +kernel
          · decide +kernel
        walk_at "done"
      · simp; omega
  rw [foldl_snoc, List.nil_append]
  apply Ex.freeze (x := "found")
  · walk_at "get"
  · walk_at "put"
  apply Ex.ret
  walk_at "st"

/-! counted -/
def ctF (p : Int) (s : Int × List Int) : Int × List Int := (s.1.fdiv p, s.2 ++ [s.1.fmod p])
def ctT (s : Int × List Int) : Bool := decide (s.1 > 0)
def ctE (n p : Int) : Int × List Int := whV ctT (ctF p) 20 (n, [])
def ctV (n p : Int) : List Int := mtV (ctE n p).2
theorem whV_inv {α : Type} {t : α → Bool} {f : α → α} (I : Nat → α → Prop) (h : ∀ k a, I k a → t a = true → I (k + 1) (f a)) (h2 : ∀ k a, I k a → I (k + 1) a) : ∀ n k a, I k a → I (k + n) (whV t f n a)
  | 0, k, a, i => i
  | n + 1, k, a, i => by
    unfold whV
    split
    · rename_i q
      have := whV_inv I h h2 n (k + 1) (f a) (h k a i q)
      rwa [show k + (n + 1) = k + 1 + n by omega]
    · rename_i q
      clear q
      induction n with
      | zero => exact h2 _ _ i
      | succ n ih => exact h2 _ _ ih
theorem ct_len (n p : Int) : (ctE n p).2.length ≤ 20 := by
  have := whV_inv (t := ctT) (f := ctF p) (fun k a => a.2.length ≤ k) (fun k a h _ => by simp [ctF]; omega) (fun k a h => by omega) 20 0 (n, []) (Nat.le_refl _)
  simpa [ctE] using this
theorem counted_fn (B : Bs hb) {n p : Int} (hp : 2 ≤ p) (hp2 : p ≤ 1000) (hn : n < 2 ^ 20) (he : (ctE n p).1 ≤ 0) : Fn prog w hb 2 "counted" [.int n, .int p] β (.list ((ctV n p).map .int)) β := by
  have F := mtrim_fn (prog := prog) (w := w) (β := β) B (xs := (ctE n p).2) (by have := ct_len n p; omega)
  refine Fn.of_ex (names := ["number", "p"]) (rest := ["found"]) (B.at 19 (by decide) _ (by decide +kernel)) B.lim (fun pm cd doc vs h => ?_) rfl (by decide +kernel) (by decide +kernel) (by decide +kernel) (by decide +kernel) (by decide +kernel) ?_
  · match vs, h with
    | [a0, a1], _ => kernel_rfl!
  show Ex prog w hb (scF 19) 1 ⟨[("number", .val _), ("p", .val _), ("found", .un)], β⟩ (boF 19) _
  apply Ex.cons
  · walk_at "own"
  apply Ex.cons
  · refine Ex1.while_run (fun (s : Int × List Int) => ⟨[("number", .val (.int s.1)), ("p", .val (.int p)), ("found", .own true (s.2.map .int))], β⟩) ctT (ctF p) (fun s => s.2.length ≤ 20 ∧ s.1 < 2 ^ (20 - s.2.length)) ?_ ?_ 20 (n, []) (by simpa using hn) (by simpa [ctT, ctE] using he)
    · rintro ⟨n, l⟩ ⟨h, h'⟩
      dsimp only at *
      walk_at "ist"
    · rintro ⟨n, l⟩ ⟨h, h'⟩ hn
      simp only [ctT, decide_eq_true_eq] at hn
      dsimp only [ctF] at *
      refine ⟨?_, ?_⟩
      · walk_at "go"
        walk_at "go"
        walk_at "done"
      · have hl : l.length < 20 := by
          rcases Nat.lt_or_ge l.length 20 with q | q
          · exact q
          · rw [show 20 - l.length = 0 by omega] at h'; omega
        refine ⟨by simp; omega, ?_⟩
        rw [List.length_append, List.length_singleton, Int.fdiv_eq_ediv_of_nonneg _ (by omega)]
        rw [show 20 - l.length = (20 - (l.length + 1)) + 1 by omega, Int.pow_succ] at h'
        have : n / p ≤ n / 2 := by
          apply Int.le_ediv_of_mul_le (by decide)
          have := Int.ediv_mul_le n (show p ≠ 0 by omega)
          have h0 : 0 ≤ n / p := Int.ediv_nonneg (by omega) (by omega)
          have := Int.mul_le_mul_of_nonneg_left hp h0
          omega
        omega
  apply Ex.freeze (x := "found")
  · walk_at "get"
  · walk_at "put"
  apply Ex.ret
  unfold ctE at F
  walk_at "st"
end
section
local macro_rules | `(tactic| walk_at "fn") => `(tactic| assumption)
theorem en_ints (a : List Int) : enI (a.map MV.int) = a.zipIdx.map fun z => .two (.int (z.2 : Nat)) (.int z.1) := by
  unfold enI
  rw [List.zipIdx_map, List.map_map]; rfl
theorem zi_lt {a : List Int} {z : Int × Nat} (h : z ∈ a.zipIdx) : z.2 < a.length ∧ z.1 ∈ a := by
  obtain ⟨x, i⟩ := z
  rw [List.mem_zipIdx_iff_getElem?] at h
  obtain ⟨h1, h2⟩ := List.getElem?_eq_some_iff.mp h
  exact ⟨h1, h2 ▸ List.getElem_mem h1⟩
def mmI (one p : Int) (i : Nat) (acc : List Int) (z : Int × Nat) : List Int := acc.set (i + z.2) ((acc.getD (i + z.2) 0 + one * z.1).fmod p)
def mmO (b : List Int) (p : Int) (acc : List Int) (z : Int × Nat) : List Int := bif z.1 != 0 then b.zipIdx.foldl (mmI z.1 p z.2) acc else acc
def mmL (a b : List Int) (p : Int) : List Int := a.zipIdx.foldl (mmO b p) (List.replicate (a.length + b.length - 1) 0)
def mmV (a b : List Int) (p : Int) : List Int := bif ((a.length : Int) == 0) || ((b.length : Int) == 0) then [] else mtV (mmL a b p)
theorem mmI_len (one p : Int) (i : Nat) (l : List (Int × Nat)) (acc : List Int) : (l.foldl (mmI one p i) acc).length = acc.length := by
  induction l generalizing acc with
  | nil => rfl
  | cons z l ih => rw [List.foldl_cons, ih]; simp [mmI]
theorem mmO_len (b : List Int) (p : Int) (l : List (Int × Nat)) (acc : List Int) : (l.foldl (mmO b p) acc).length = acc.length := by
  induction l generalizing acc with
  | nil => rfl
  | cons z l ih =>
    rw [List.foldl_cons, ih]
    unfold mmO
    cases z.1 != 0 with
    | true => exact mmI_len ..
    | false => rfl
theorem mmL_len (a b : List Int) (p : Int) : (mmL a b p).length = a.length + b.length - 1 := by
  unfold mmL; rw [mmO_len, List.length_replicate]
theorem mmul_fn (B : Bs hb) {a b : List Int} {p : Int} (hp : 0 < p) (ha : a.length ≤ 400) (hb' : b.length ≤ 400) (he : ∀ x ∈ a, 0 ≤ x ∧ x < 1000) : Fn prog w hb 2 "mmul" [.list (a.map .int), .list (b.map .int), .int p] β (.list ((mmV a b p).map .int)) β := by
  have F := mtrim_fn (prog := prog) (w := w) (β := β) B (xs := mmL a b p) (by rw [mmL_len]; omega)
  refine Fn.of_ex (names := ["a", "b", "p"]) (rest := ["found", "at", "one", "spot", "other"]) (B.at 9 (by decide) _ (by decide +kernel)) B.lim (fun pm cd doc vs h => ?_) rfl (by decide +kernel) (by decide +kernel) (by decide +kernel) (by decide +kernel) (by decide +kernel) ?_
  · match vs, h with
    | [a0, a1, a2], _ => kernel_rfl!
  show Ex prog w hb (scF 9) 1 ⟨[("a", .val _), ("b", .val _), ("p", .val _), ("found", .un), ("at", .un), ("one", .un), ("spot", .un), ("other", .un)], β⟩ (boF 9) _
  have hor : IsT prog w hb (scF 9) 1 ⟨[("a", .val (.list (a.map .int))), ("b", .val (.list (b.map .int))), ("p", .val (.int p)), ("found", .un), ("at", .un), ("one", .un), ("spot", .un), ("other", .un)], β⟩ (match boF 9 with | .If t _ _ _ :: _ => t | _ => default) (((a.length : Int) == 0) || ((b.length : Int) == 0)) β := by
    apply IsT.or2
    · walk_at "ist"
    · intro _
      walk_at "ist"
  unfold mmV
  cases hc : ((a.length : Int) == 0) || ((b.length : Int) == 0)
  · rw [hc] at hor
    apply Ex.cons
    · apply Ex1.if_f
      · exact hor
      · rfl
      · exact Ex.nil
    simp only [Bool.or_eq_false_iff, beq_eq_false_iff_ne, ne_eq] at hc
    apply Ex.cons
    · walk_at "own"
    rw [show (List.replicate ((a.length : Int) + (b.length : Int) - 1).toNat (MV.int 0)) = (List.replicate (a.length + b.length - 1) (0 : Int)).map .int by rw [List.map_replicate]; congr 1; omega]
    apply Ex.lower (x := "found")
    · walk_at "get"
    · walk_at "put"
    apply Ex.cons
    · refine Ex1.for_fold (l := a.zipIdx) (g := fun z => .two (.int (z.2 : Nat)) (.int z.1)) (a0 := List.replicate (a.length + b.length - 1) (0 : Int)) (fun acc => ⟨[("a", .val (.list (a.map .int))), ("b", .val (.list (b.map .int))), ("p", .val (.int p)), ("found", .own false (acc.map .int)), ("at", .un), ("one", .un), ("spot", .un), ("other", .un)], β⟩) (mmO b p) (fun acc r => acc.length = a.length + b.length - 1 ∧ ∀ z ∈ r, z ∈ a.zipIdx) ?_ rfl ⟨by simp, fun _ h => h⟩ ?_ (fun _ _ => rfl)
      · apply Iter.cast
        · walk_at "iter"
        · exact (en_ints a).symm
      · rintro acc ⟨x, i⟩ r ⟨hl, hr⟩
        have hz := zi_lt (hr _ (List.mem_cons_self ..))
        have hx := he _ hz.2
        dsimp only at hz hx
        apply turn_of
        · walk_at "asg"
        · unfold mmO
          cases hn : x != 0
          · apply Ex.cons
            · apply Ex1.if_f
              · walk_at "ist"
              · walk_at "cond"
              · exact Ex.nil
            walk_at "done"
          · apply Ex.cons
            · apply Ex1.if_t
              · walk_at "ist"
              · walk_at "cond"
              · apply Ex.one
                refine Ex1.for_fold (l := b.zipIdx) (g := fun z => .two (.int (z.2 : Nat)) (.int z.1)) (a0 := acc) (fun acc => ⟨[("a", .val (.list (a.map .int))), ("b", .val (.list (b.map .int))), ("p", .val (.int p)), ("found", .own false (acc.map .int)), ("at", .val (.int i)), ("one", .val (.int x)), ("spot", .un), ("other", .un)], β⟩) (mmI x p i) (fun acc r => acc.length = a.length + b.length - 1 ∧ ∀ z ∈ r, z ∈ b.zipIdx) ?_ rfl ⟨hl, fun _ h => h⟩ ?_ (fun _ _ => rfl)
                · apply Iter.cast
                  · walk_at "iter"
                  · exact (en_ints b).symm
                · rintro acc ⟨y, j⟩ r ⟨hl, hr⟩
                  have hy := zi_lt (hr _ (List.mem_cons_self ..))
                  dsimp only at hy
                  have hk : ((i : Int) + (j : Int)).toNat = i + j := by omega
                  have hg := ints_get (a := acc) (i := i + j) (k := (i : Int) + (j : Int)) (by omega) (by omega)
                  apply turn_of
                  · walk_at "asg"
                  · unfold mmI
                    walk_at "go"
                    walk_at "done"
                  · exact ⟨by simp [mmI]; exact hl, fun z h => hr z (List.mem_cons_of_mem _ h)⟩
            walk_at "done"
        · refine ⟨?_, fun z h => hr z (List.mem_cons_of_mem _ h)⟩
          have := mmO_len b p [(x, i)] acc
          rw [List.foldl_cons, List.foldl_nil] at this
          rw [this, hl]
    apply Ex.freeze (x := "found")
    · walk_at "get"
    · walk_at "put"
    apply Ex.ret
    unfold mmL at F
    walk_at "st"
  · rw [hc] at hor
    apply Ex.ret
    apply Ex1.if_t
    · exact hor
    · rfl
    · apply Ex.ret
      simp only [cond_true, List.map_nil]
      walk_at "st"
end
section
def lastV (b : List Int) : Int := b.getD (b.length - 1) 0
def mdI (num p : Int) (i : Nat) (acc : List Int) (z : Int × Nat) : List Int := acc.set (i + z.2) ((acc.getD (i + z.2) 0 - num * z.1).fmod p)
def mdN (b : List Int) (t p : Int) (rest : List Int) (i : Nat) : Int := (rest.getD (i + b.length - 1) 0 * t).fmod p
def mdO (b : List Int) (t p : Int) (s : List Int × List Int) (i : Nat) : List Int × List Int :=
  (bif mdN b t p s.1 i != 0 then b.zipIdx.foldl (mdI (mdN b t p s.1 i) p i) s.1 else s.1, s.2.set i (mdN b t p s.1 i))
def mdS (a b : List Int) (t p : Int) : List Int × List Int := (List.range (a.length + 1 - b.length)).reverse.foldl (mdO b t p) (a, List.replicate (a.length + 1 - b.length) 0)
theorem mdI_ok {num p : Int} (hp : 0 < p) (hp2 : p ≤ 1000) (i : Nat) (l : List (Int × Nat)) (acc : List Int) (h : ∀ x ∈ acc, 0 ≤ x ∧ x < 1000) : (l.foldl (mdI num p i) acc).length = acc.length ∧ ∀ x ∈ l.foldl (mdI num p i) acc, 0 ≤ x ∧ x < 1000 := by
  induction l generalizing acc with
  | nil => exact ⟨rfl, h⟩
  | cons z l ih =>
    rw [List.foldl_cons]
    have := ih (mdI num p i acc z) (fun x hx => by
      rcases List.mem_or_eq_of_mem_set hx with q | q
      · exact h x q
      · have := fmod_sm (a := acc.getD (i + z.2) 0 - num * z.1) hp
        omega)
    exact ⟨this.1.trans (by simp [mdI]), this.2⟩
theorem mdO_ok {b : List Int} {t p : Int} (hp : 0 < p) (hp2 : p ≤ 1000) (s : List Int × List Int) (i : Nat) (h : ∀ x ∈ s.1, 0 ≤ x ∧ x < 1000) : (mdO b t p s i).1.length = s.1.length ∧ (mdO b t p s i).2.length = s.2.length ∧ ∀ x ∈ (mdO b t p s i).1, 0 ≤ x ∧ x < 1000 := by
  unfold mdO
  refine ⟨?_, by simp, ?_⟩ <;> cases mdN b t p s.1 i != 0
  · rfl
  · exact (mdI_ok hp hp2 i _ _ h).1
  · exact h
  · exact (mdI_ok hp hp2 i _ _ h).2
theorem mdS_ok {a b : List Int} {t p : Int} (hp : 0 < p) (hp2 : p ≤ 1000) (h : ∀ x ∈ a, 0 ≤ x ∧ x < 1000) : (mdS a b t p).1.length = a.length ∧ (mdS a b t p).2.length = a.length + 1 - b.length ∧ ∀ x ∈ (mdS a b t p).1, 0 ≤ x ∧ x < 1000 := by
  have : ∀ (l : List Nat) (s : List Int × List Int), (∀ x ∈ s.1, 0 ≤ x ∧ x < 1000) → (l.foldl (mdO b t p) s).1.length = s.1.length ∧ (l.foldl (mdO b t p) s).2.length = s.2.length ∧ ∀ x ∈ (l.foldl (mdO b t p) s).1, 0 ≤ x ∧ x < 1000 := by
    intro l
    induction l with
    | nil => intro s h; exact ⟨rfl, rfl, h⟩
    | cons i l ih =>
      intro s h
      obtain ⟨h1, h2, h3⟩ := mdO_ok (b := b) (t := t) hp hp2 s i h
      obtain ⟨k1, k2, k3⟩ := ih _ h3
      exact ⟨k1.trans h1, k2.trans h2, k3⟩
  have := this (List.range (a.length + 1 - b.length)).reverse (a, List.replicate (a.length + 1 - b.length) 0) h
  exact ⟨this.1, this.2.1.trans (List.length_replicate ..), this.2.2⟩
theorem mdivmod_fn (B : Bs hb) {a b : List Int} {p t : Int} (hp : 0 < p) (hp2 : p < 14) (ha : a.length ≤ 400) (hb0 : 0 < b.length) (hb' : b.length ≤ 400) (he : ∀ x ∈ a, 0 ≤ x ∧ x < 1000) (ht : invV (lastV b) p = some t) :
    Fn prog w hb 3 "mdivmod" [.list (a.map .int), .list (b.map .int), .int p] β (.tup [.list ((mtV (mdS a b t p).2).map .int), .list ((mtV ((mdS a b t p).1.take (b.length - 1))).map .int)]) β := by
  obtain ⟨hs1, hs2, hs3⟩ := mdS_ok (b := b) (t := t) hp (show p ≤ 1000 by omega) he
  have F1 := inverse_mod_fn (prog := prog) (w := w) (β := β) B (a := lastV b) hp hp2
  rw [ht] at F1
  change Fn prog w hb 2 "inverse_mod" [.int (lastV b), .int p] β (.int t) β at F1
  unfold lastV at F1
  have F2 := mtrim_fn (prog := prog) (w := w) (β := β) B (xs := (mdS a b t p).2) (by omega)
  have F3 := mtrim_fn (prog := prog) (w := w) (β := β) B (xs := (mdS a b t p).1.take (b.length - 1)) (by rw [List.length_take]; omega)
  rw [List.map_take, show b.length - 1 = ((b.length : Int) - 1).toNat by omega] at F3
  rw [show b.length - 1 = ((b.length : Int) - 1).toNat by omega]
  obtain ⟨S, hS⟩ : ∃ S, mdS a b t p = S := ⟨_, rfl⟩
  rw [hS] at hs1 hs2 hs3 F2 F3 ⊢
  unfold mdS at hS
  refine Fn.of_ex (names := ["a", "b", "p"]) (rest := ["rest", "quotient", "turn", "at", "number", "spot", "other"]) (B.at 10 (by decide) _ (by decide +kernel)) B.lim (fun pm cd doc vs h => ?_) rfl (by decide +kernel) (by decide +kernel) (by decide +kernel) (by decide +kernel) (by decide +kernel) ?_
  · match vs, h with
    | [a0, a1, a2], _ => kernel_rfl!
  show Ex prog w hb (scF 10) 2 ⟨[("a", .val _), ("b", .val _), ("p", .val _), ("rest", .un), ("quotient", .un), ("turn", .un), ("at", .un), ("number", .un), ("spot", .un), ("other", .un)], β⟩ (boF 10) _
  apply Ex.cons
  · apply Ex1.assign_own2
    · walk_at "evl"
    · walk_at "evl"
    · decide +kernel
    · decide +kernel
    · walk_at "put"
    · walk_at "put"
    · rfl
    · rfl
    · (intro _; rfl)
    · (intro env h; cases env; cases h; kernel_rfl!)
  rw [show (List.replicate (if (a.length : Int) - b.length + 1 > 0 then (a.length : Int) - b.length + 1 else 0).toNat (MV.int 0)) = (List.replicate (a.length + 1 - b.length) (0 : Int)).map .int by rw [List.map_replicate]; congr 1; split <;> omega]
  apply Ex.lower (x := "rest")
  · walk_at "get"
  · walk_at "put"
  apply Ex.lower (x := "quotient")
  · walk_at "get"
  · walk_at "put"
  have hlast := ints_get (a := b) (i := b.length - 1) (k := -1 + b.length) (by omega) (by omega)
  rw [show (-1 : Int) + b.length = -1 + (b.map MV.int).length by rw [List.length_map]] at hlast
  apply Ex.cons
  · walk_at "st"
  apply Ex.cons
  · refine Ex1.for_fold (l := (List.range (a.length + 1 - b.length)).reverse) (g := fun i => .one (.int (i : Nat))) (a0 := (a, List.replicate (a.length + 1 - b.length) (0 : Int))) (fun s => ⟨[("a", .val (.list (a.map .int))), ("b", .val (.list (b.map .int))), ("p", .val (.int p)), ("rest", .own false (s.1.map .int)), ("quotient", .own false (s.2.map .int)), ("turn", .val (.int t)), ("at", .un), ("number", .un), ("spot", .un), ("other", .un)], β⟩) (mdO b t p) (fun s r => s.1.length = a.length ∧ s.2.length = a.length + 1 - b.length ∧ (∀ x ∈ s.1, 0 ≤ x ∧ x < 1000) ∧ ∀ i ∈ r, i < a.length + 1 - b.length) ?_ rfl ⟨rfl, List.length_replicate .., he, fun i h => by simpa using h⟩ ?_ (fun _ _ => rfl)
    · apply Iter.cast
      · walk_at "iter"
      · rw [rg_down]
        rcases Nat.lt_or_ge a.length b.length with q | q
        · rw [show ((a.length : Int) - b.length - -1).toNat = 0 by omega, show a.length + 1 - b.length = 0 by omega]; rfl
        · rw [show ((a.length : Int) - b.length - -1).toNat = a.length + 1 - b.length by omega, show ((a.length + 1 - b.length : Nat) : Int) - 1 = (a.length : Int) - b.length by omega]
    · rintro ⟨rest, quo⟩ i r ⟨h1, h2, h3, h4⟩
      have hi := h4 i (List.mem_cons_self ..)
      dsimp only at h1 h2 h3
      have hok := mdO_ok (b := b) (t := t) hp (show p ≤ 1000 by omega) (rest, quo) i h3
      have hg := ints_get (a := rest) (i := i + b.length - 1) (k := (i : Int) + b.length - 1) (by omega) (by omega)
      have hb1 : 0 ≤ rest.getD (i + b.length - 1) 0 ∧ rest.getD (i + b.length - 1) 0 < 1000 := h3 _ (by
        rw [List.getD_eq_getElem?_getD, List.getElem?_eq_getElem (by omega)]; exact List.getElem_mem _)
      have hn := fmod_sm (a := rest.getD (i + b.length - 1) 0 * t) hp
      apply turn_of
      · walk_at "asg"
      · unfold mdO
        dsimp only
        unfold mdN
        generalize hN : (rest.getD (i + b.length - 1) 0 * t).fmod p = N
        rw [hN] at hn
        walk_at "go"
        rw [hN]
        walk_at "go"
        rw [show (List.map MV.int quo).set (i : Int).toNat (MV.int N) = (quo.set i N).map .int by simp only [List.map_set, Int.toNat_natCast]]
        cases hc : N != 0
        · apply Ex.cons
          · apply Ex1.if_f
            · walk_at "ist"
            · walk_at "cond"
            · exact Ex.nil
          walk_at "done"
        · apply Ex.cons
          · apply Ex1.if_t
            · walk_at "ist"
            · walk_at "cond"
            · apply Ex.one
              refine Ex1.for_fold (l := b.zipIdx) (g := fun z => .two (.int (z.2 : Nat)) (.int z.1)) (a0 := rest) (fun acc => ⟨[("a", .val (.list (a.map .int))), ("b", .val (.list (b.map .int))), ("p", .val (.int p)), ("rest", .own false (acc.map .int)), ("quotient", .own false ((quo.set i N).map .int)), ("turn", .val (.int t)), ("at", .val (.int i)), ("number", .val (.int N)), ("spot", .un), ("other", .un)], β⟩) (mdI N p i) (fun acc r => acc.length = a.length ∧ ∀ z ∈ r, z ∈ b.zipIdx) ?_ rfl ⟨h1, fun _ h => h⟩ ?_ (fun _ _ => rfl)
              · apply Iter.cast
                · walk_at "iter"
                · exact (en_ints b).symm
              · rintro acc ⟨y, j⟩ r ⟨hl, hr⟩
                have hy := zi_lt (hr _ (List.mem_cons_self ..))
                dsimp only at hy
                have hk : ((i : Int) + (j : Int)).toNat = i + j := by omega
                have hg := ints_get (a := acc) (i := i + j) (k := (i : Int) + (j : Int)) (by omega) (by omega)
                apply turn_of
                · walk_at "asg"
                · unfold mdI
                  walk_at "go"
                  walk_at "done"
                · exact ⟨by simp [mdI]; exact hl, fun z h => hr z (List.mem_cons_of_mem _ h)⟩
          walk_at "done"
      · exact ⟨hok.1.trans h1, hok.2.1.trans h2, hok.2.2, fun j h => h4 j (List.mem_cons_of_mem _ h)⟩
  rw [hS]
  clear hS
  apply Ex.freeze (x := "rest")
  · walk_at "get"
  · walk_at "put"
  apply Ex.freeze (x := "quotient")
  · walk_at "get"
  · walk_at "put"
  apply Ex.ret
  walk_at "st"
def mrV (a b : List Int) (t p : Int) : List Int := mtV ((mdS a b t p).1.take (b.length - 1))
theorem mrest_fn (B : Bs hb) {a b : List Int} {p t : Int} (hp : 0 < p) (hp2 : p < 14) (ha : a.length ≤ 400) (hb0 : 0 < b.length) (hb' : b.length ≤ 400) (he : ∀ x ∈ a, 0 ≤ x ∧ x < 1000) (ht : invV (lastV b) p = some t) :
    Fn prog w hb 4 "mrest" [.list (a.map .int), .list (b.map .int), .int p] β (.list ((mrV a b t p).map .int)) β := by
  have F := mdivmod_fn (prog := prog) (w := w) (β := β) B hp hp2 ha hb0 hb' he ht
  refine Fn.of_ex (names := ["a", "b", "p"]) (rest := []) (B.at 11 (by decide) _ (by decide +kernel)) B.lim (fun pm cd doc vs h => ?_) rfl (by decide +kernel) (by decide +kernel) (by decide +kernel) (by decide +kernel) (by decide +kernel) ?_
  · match vs, h with
    | [a0, a1, a2], _ => kernel_rfl!
  show Ex prog w hb (scF 11) 3 ⟨[("a", .val _), ("b", .val _), ("p", .val _)], β⟩ (boF 11) _
  unfold mrV
  apply Ex.ret
  walk_at "st"
end
section
def msL (a : List Int) (n p : Int) : List Int := a.map fun x => (x * n).fmod p
def msV (a : List Int) (n p : Int) : List Int := mtV (msL a n p)
theorem mscale_fn (B : Bs hb) {a : List Int} {n p : Int} (hp : 0 < p) (ha : a.length ≤ 400) (he : ∀ x ∈ a, 0 ≤ x ∧ x < 1000) : Fn prog w hb 2 "mscale" [.list (a.map .int), .int n, .int p] β (.list ((msV a n p).map .int)) β := by
  have F := mtrim_fn (prog := prog) (w := w) (β := β) B (xs := msL a n p) (by simp [msL]; omega)
  unfold msL at F
  rw [List.map_map] at F
  refine Fn.of_ex (names := ["a", "number", "p"]) (rest := []) (B.at 8 (by decide) _ (by decide +kernel)) B.lim (fun pm cd doc vs h => ?_) rfl (by decide +kernel) (by decide +kernel) (by decide +kernel) (by decide +kernel) (by decide +kernel) ?_
  · match vs, h with
    | [a0, a1, a2], _ => kernel_rfl!
  show Ex prog w hb (scF 8) 1 ⟨[("a", .val _), ("number", .val _), ("p", .val _)], β⟩ (boF 8) _
  apply Ex.ret
  apply Ex1.Return
  apply Ev.fn2
  · decide +kernel
  · rfl
  · apply Evs.cons
    · apply Ev.of_list
      refine EvL.comp_map (l := a) (g := fun x => .one (.int x)) (f := fun x => .int ((x * n).fmod p)) (nms := ["a", "number", "p"]) (cv := [("one", .un), ("number", .val (.int n)), ("p", .val (.int p))]) (β1 := β) ?_ (by decide +kernel) rfl ?_ (by omega) ?_ (fun _ _ => rfl)
      · apply Iter.cast
        · walk_at "iter"
        · rw [List.map_map]; rfl
      · walk_at "cv"
      · intro x hx
        have := he x hx
        apply TurnM.mk
        · walk_at "asgl"
        · walk_at "ev"
        · exact True.intro
        · walk_at "wk"
    · exact Evs.nil
    · rfl
  · exact F
  · decide
end
section
def okL (l : List Int) : Bool := decide (l.length ≤ 200) && l.all fun x => decide (0 ≤ x) && decide (x < 1000)
theorem okL_len {l : List Int} (h : okL l = true) : l.length ≤ 200 := by simp only [okL, Bool.and_eq_true, decide_eq_true_eq] at h; exact h.1
theorem okL_mem {l : List Int} (h : okL l = true) : ∀ x ∈ l, 0 ≤ x ∧ x < 1000 := by
  simp only [okL, Bool.and_eq_true, decide_eq_true_eq, List.all_eq_true] at h; exact h.2

theorem mmonic_fn (B : Bs hb) {a : List Int} {p t : Int} (hp : 0 < p) (hp2 : p < 14) (ha : okL a = true) (ha0 : 0 < a.length) (ht : invV (lastV a) p = some t) : Fn prog w hb 3 "mmonic" [.list (a.map .int), .int p] β (.list ((msV a t p).map .int)) β := by
  have hl := okL_len ha
  have F1 := inverse_mod_fn (prog := prog) (w := w) (β := β) B (a := lastV a) hp hp2
  rw [ht] at F1
  change Fn prog w hb 2 "inverse_mod" [.int (lastV a), .int p] β (.int t) β at F1
  unfold lastV at F1
  have F2 := mscale_fn (prog := prog) (w := w) (β := β) B (a := a) (n := t) hp (by omega) (okL_mem ha)
  have hlast := ints_get (a := a) (i := a.length - 1) (k := -1 + a.length) (by omega) (by omega)
  rw [show (-1 : Int) + a.length = -1 + (a.map MV.int).length by rw [List.length_map]] at hlast
  refine Fn.of_ex (names := ["a", "p"]) (rest := []) (B.at 12 (by decide) _ (by decide +kernel)) B.lim (fun pm cd doc vs h => ?_) rfl (by decide +kernel) (by decide +kernel) (by decide +kernel) (by decide +kernel) (by decide +kernel) ?_
  · match vs, h with
    | [a0, a1], _ => kernel_rfl!
  show Ex prog w hb (scF 12) 2 ⟨[("a", .val _), ("p", .val _)], β⟩ (boF 12) _
  apply Ex.ret
  apply Ex1.Return
  apply Ev.ite_t
  · walk_at "ist"
  · exact decide_eq_true (by omega)
  · walk_at "ev"

def mderL (a : List Int) (p : Int) : List Int := (a.zipIdx.map fun z => ((z.2 : Int) * z.1).fmod p).drop 1
def mderV (a : List Int) (p : Int) : List Int := mtV (mderL a p)
theorem mderive_fn (B : Bs hb) {a : List Int} {p : Int} (hp : 0 < p) (ha : a.length ≤ 400) : Fn prog w hb 2 "mderive" [.list (a.map .int), .int p] β (.list ((mderV a p).map .int)) β := by
  have F := mtrim_fn (prog := prog) (w := w) (β := β) B (xs := mderL a p) (by simp [mderL]; omega)
  unfold mderL at F
  rw [List.map_drop, List.map_map] at F
  refine Fn.of_ex (names := ["a", "p"]) (rest := []) (B.at 13 (by decide) _ (by decide +kernel)) B.lim (fun pm cd doc vs h => ?_) rfl (by decide +kernel) (by decide +kernel) (by decide +kernel) (by decide +kernel) (by decide +kernel) ?_
  · match vs, h with
    | [a0, a1], _ => kernel_rfl!
  show Ex prog w hb (scF 13) 1 ⟨[("a", .val _), ("p", .val _)], β⟩ (boF 13) _
  apply Ex.ret
  apply Ex1.Return
  apply Ev.fn2
  · decide +kernel
  · rfl
  · apply Evs.cons
    · apply Ev.of_list
      apply EvL.slice
      · apply Ev.of_list
        refine EvL.comp_map (l := a.zipIdx) (g := fun z => .two (.int (z.2 : Nat)) (.int z.1)) (f := fun z => .int (((z.2 : Int) * z.1).fmod p)) (nms := ["a", "p"]) (cv := [("at", .un), ("number", .un), ("p", .val (.int p))]) (β1 := β) ?_ (by decide +kernel) rfl ?_ (by rw [List.length_zipIdx]; omega) ?_ (fun _ _ => rfl)
        · apply Iter.cast
          · walk_at "iter"
          · exact (en_ints a).symm
        · walk_at "cv"
        · rintro ⟨x, i⟩ hx
          have := zi_lt hx
          dsimp only at this ⊢
          apply TurnM.mk
          · walk_at "asgl"
          · walk_at "ev"
          · exact True.intro
          · walk_at "wk"
      · walk_at "evp"
      · walk_at "evp"
      · exact Pick.from 1 _
      · rw [List.length_map, List.length_zipIdx]; omega
    · exact Evs.nil
    · rfl
  · exact F
  · decide

/-! mgcd -/
def mgF (p : Int) (s : List Int × List Int) : List Int × List Int := (s.2, mrV s.1 s.2 ((invV (lastV s.2) p).getD 0) p)
def mgT (s : List Int × List Int) : Bool := decide ((s.2.length : Int) > 0)
def mgR (p : Int) : Nat → List Int × List Int → Option (List Int)
  | 0, s => bif mgT s then none else some s.1
  | n + 1, s => bif mgT s then (bif okL s.1 && okL s.2 && (invV (lastV s.2) p).isSome then mgR p n (mgF p s) else none) else some s.1
theorem mgR_wh {p : Int} : ∀ {n : Nat} {s : List Int × List Int} {r : List Int}, mgR p n s = some r → mgT (whV mgT (mgF p) n s) = false ∧ (whV mgT (mgF p) n s).1 = r
  | 0, s, r, h => by
    unfold mgR at h
    cases q : mgT s with
    | true => rw [q] at h; cases h
    | false => rw [q] at h; cases h; exact ⟨q, rfl⟩
  | n + 1, s, r, h => by
    unfold mgR at h
    unfold whV
    cases q : mgT s with
    | true =>
      rw [q, cond_true] at h
      rw [if_pos rfl]
      cases z : okL s.1 && okL s.2 && (invV (lastV s.2) p).isSome with
      | true => rw [z, cond_true] at h; exact mgR_wh h
      | false => rw [z] at h; cases h
    | false =>
      rw [q, cond_false] at h; cases h
      rw [if_neg (by decide)]
      exact ⟨q, rfl⟩
theorem mgR_len {p : Int} {n : Nat} {s : List Int × List Int} {r : List Int} (h : mgR p n s = some r) : s.2.length ≤ 200 := by
  cases q : mgT s with
  | false => simp [mgT] at q; simp [q]
  | true =>
    cases n with
    | zero => unfold mgR at h; rw [q] at h; cases h
    | succ n =>
      unfold mgR at h
      rw [q, cond_true] at h
      cases z : okL s.1 && okL s.2 && (invV (lastV s.2) p).isSome with
      | false => rw [z] at h; cases h
      | true =>
        simp only [Bool.and_eq_true] at z
        exact okL_len z.1.2
theorem mgcd_fn (B : Bs hb) {a b r : List Int} {p t : Int} {n : Nat} (hp : 0 < p) (hp2 : p < 14) (hr : mgR p n (a, b) = some r) (hro : okL r = true) (hr0 : 0 < r.length) (ht : invV (lastV r) p = some t) :
    Fn prog w hb 5 "mgcd" [.list (a.map .int), .list (b.map .int), .int p] β (.list ((msV r t p).map .int)) β := by
  obtain ⟨hw1, hw2⟩ := mgR_wh hr
  have F := mmonic_fn (prog := prog) (w := w) (β := β) B hp hp2 hro hr0 ht
  refine Fn.of_ex (names := ["a", "b", "p"]) (rest := []) (B.at 16 (by decide) _ (by decide +kernel)) B.lim (fun pm cd doc vs h => ?_) rfl (by decide +kernel) (by decide +kernel) (by decide +kernel) (by decide +kernel) (by decide +kernel) ?_
  · match vs, h with
    | [a0, a1, a2], _ => kernel_rfl!
  show Ex prog w hb (scF 16) 4 ⟨[("a", .val _), ("b", .val _), ("p", .val _)], β⟩ (boF 16) _
  apply Ex.cons
  · refine Ex1.while_run (fun (s : List Int × List Int) => ⟨[("a", .val (.list (s.1.map .int))), ("b", .val (.list (s.2.map .int))), ("p", .val (.int p))], β⟩) mgT (mgF p) (fun s => ∃ n, mgR p n s = some r) ?_ ?_ n (a, b) ⟨n, hr⟩ hw1
    · rintro ⟨a, b⟩ ⟨n, h⟩
      have := mgR_len h
      dsimp only at *
      walk_at "ist"
    · rintro ⟨a, b⟩ ⟨n, h⟩ hn
      cases n with
      | zero => unfold mgR at h; rw [hn] at h; cases h
      | succ n =>
        unfold mgR at h
        rw [hn, cond_true] at h
        cases z : okL a && okL b && (invV (lastV b) p).isSome with
        | false => rw [z] at h; cases h
        | true =>
          rw [z, cond_true] at h
          simp only [Bool.and_eq_true] at z
          obtain ⟨⟨z1, z2⟩, z3⟩ := z
          obtain ⟨t', ht'⟩ := Option.isSome_iff_exists.mp z3
          have hb0 : 0 < b.length := by simpa [mgT] using hn
          have l1 := okL_len z1
          have l2 := okL_len z2
          have G := mrest_fn (prog := prog) (w := w) (β := β) B hp hp2 (show a.length ≤ 400 by omega) hb0 (by omega) (okL_mem z1) ht'
          have e : mgF p (a, b) = (b, mrV a b t' p) := by unfold mgF; dsimp only; rw [ht']; rfl
          rw [e] at h ⊢
          refine ⟨?_, n, h⟩
          walk_at "go"
          walk_at "done"
  · rw [hw2]
    apply Ex.ret
    walk_at "st"

/-! mproduct -/
def mpR (p : Int) : List (List Int) → List Int → Option (List Int)
  | [], acc => some acc
  | one :: l, acc => bif okL acc && okL one then mpR p l (mmV acc one p) else none
theorem mpR_fold {p : Int} : ∀ {l : List (List Int)} {acc r : List Int}, mpR p l acc = some r → l.foldl (fun acc one => mmV acc one p) acc = r
  | [], acc, r, h => by cases h; rfl
  | one :: l, acc, r, h => by
    unfold mpR at h
    cases z : okL acc && okL one with
    | false => rw [z] at h; cases h
    | true => rw [z, cond_true] at h; exact (mpR_fold h : l.foldl (fun acc one => mmV acc one p) (mmV acc one p) = r)
theorem mproduct_fn (B : Bs hb) {l : List (List Int)} {p : Int} {r : List Int} (hp : 0 < p) (hr : mpR p l [1] = some r) : Fn prog w hb 3 "mproduct" [.list (l.map fun x => .list (x.map .int)), .int p] β (.list (r.map .int)) β := by
  refine Fn.of_ex (names := ["some", "p"]) (rest := ["found", "one"]) (B.at 15 (by decide) _ (by decide +kernel)) B.lim (fun pm cd doc vs h => ?_) rfl (by decide +kernel) (by decide +kernel) (by decide +kernel) (by decide +kernel) (by decide +kernel) ?_
  · match vs, h with
    | [a0, a1], _ => kernel_rfl!
  show Ex prog w hb (scF 15) 2 ⟨[("some", .val _), ("p", .val _), ("found", .un), ("one", .un)], β⟩ (boF 15) _
  walk_at "go"
  apply Ex.cons
  · refine Ex1.for_fold (l := l) (g := fun x => .one (.list (x.map .int))) (a0 := ([1] : List Int)) (fun acc => ⟨[("some", .val (.list (l.map fun x => .list (x.map .int)))), ("p", .val (.int p)), ("found", .val (.list (acc.map .int))), ("one", .un)], β⟩) (fun acc one => mmV acc one p) (fun acc l => mpR p l acc = some r) ?_ rfl hr ?_ (fun _ _ => rfl)
    · apply Iter.cast
      · walk_at "iter"
      · rw [List.map_map]; rfl
    · intro acc one l' h
      unfold mpR at h
      cases z : okL acc && okL one with
      | false => rw [z] at h; cases h
      | true =>
        rw [z, cond_true] at h
        simp only [Bool.and_eq_true] at z
        have l1 := okL_len z.1
        have l2 := okL_len z.2
        have G := mmul_fn (prog := prog) (w := w) (β := β) B (a := acc) (b := one) hp (by omega) (by omega) (okL_mem z.1)
        apply turn_of
        · walk_at "asg"
        · walk_at "go"
          walk_at "done"
        · exact h
  · rw [mpR_fold hr]
    apply Ex.ret
    walk_at "st"

/-! fields -/
theorem gf_size_fn (B : Bs hb) {m : List Int} {p : Int} (hp : 0 < p) (hp2 : p < 14) (hm0 : 0 < m.length) (hm : m.length ≤ 10) : Fn prog w hb 2 "gf_size" [.list (m.map .int), .int p] β (.int (p ^ ((m.length : Int) - 1).toNat)) β := by
  have F := mdegree_fn (prog := prog) (w := w) (β := β) B (xs := m) (by omega)
  refine Fn.of_ex (names := ["m", "p"]) (rest := []) (B.at 20 (by decide) _ (by decide +kernel)) B.lim (fun pm cd doc vs h => ?_) rfl (by decide +kernel) (by decide +kernel) (by decide +kernel) (by decide +kernel) (by decide +kernel) ?_
  · match vs, h with
    | [a0, a1], _ => kernel_rfl!
  show Ex prog w hb (scF 20) 1 ⟨[("m", .val _), ("p", .val _)], β⟩ (boF 20) _
  apply Ex.ret
  walk_at "st"
def gmV (m : List Int) (t p : Int) (a b : List Int) : List Int := mrV (mmV a b p) m t p
def gmK (p : Int) (a b : List Int) : Bool := okL a && okL b && okL (mmV a b p)
theorem gf_multiply_fn (B : Bs hb) {a b m : List Int} {p t : Int} (hp : 0 < p) (hp2 : p < 14) (hm0 : 0 < m.length) (hm : okL m = true) (ht : invV (lastV m) p = some t) (h : gmK p a b = true) :
    Fn prog w hb 5 "gf_multiply" [.list (a.map .int), .list (b.map .int), .list (m.map .int), .int p] β (.list ((gmV m t p a b).map .int)) β := by
  unfold gmK at h
  simp only [Bool.and_eq_true] at h
  have l1 := okL_len h.1.1
  have l2 := okL_len h.1.2
  have l3 := okL_len h.2
  have l4 := okL_len hm
  have F1 := mmul_fn (prog := prog) (w := w) (β := β) B (a := a) (b := b) hp (by omega) (by omega) (okL_mem h.1.1)
  have F2 := mrest_fn (prog := prog) (w := w) (β := β) B hp hp2 (show (mmV a b p).length ≤ 400 by omega) hm0 (by omega) (okL_mem h.2) ht
  unfold gmV
  refine Fn.of_ex (names := ["a", "b", "m", "p"]) (rest := []) (B.at 22 (by decide) _ (by decide +kernel)) B.lim (fun pm cd doc vs h => ?_) rfl (by decide +kernel) (by decide +kernel) (by decide +kernel) (by decide +kernel) (by decide +kernel) ?_
  · match vs, h with
    | [a0, a1, a2, a3], _ => kernel_rfl!
  show Ex prog w hb (scF 22) 4 ⟨[("a", .val _), ("b", .val _), ("m", .val _), ("p", .val _)], β⟩ (boF 22) _
  apply Ex.ret
  walk_at "st"
end
section
abbrev G3 := List Int × List Int × Int
def gpF (m : List Int) (t p : Int) (s : G3) : G3 := (bif s.2.2.fmod 2 == 1 then gmV m t p s.1 s.2.1 else s.1, bif decide (s.2.2.fdiv 2 > 0) then gmV m t p s.2.1 s.2.1 else s.2.1, s.2.2.fdiv 2)
def gpT (s : G3) : Bool := decide (s.2.2 > 0)
def gpR (m : List Int) (t p : Int) : Nat → G3 → Option (List Int)
  | 0, s => bif gpT s then none else some s.1
  | n + 1, s => bif gpT s then (bif (!(s.2.2.fmod 2 == 1) || gmK p s.1 s.2.1) && (!decide (s.2.2.fdiv 2 > 0) || gmK p s.2.1 s.2.1) then gpR m t p n (gpF m t p s) else none) else some s.1
theorem gpR_wh {m : List Int} {t p : Int} : ∀ {n : Nat} {s : G3} {r : List Int}, gpR m t p n s = some r → gpT (whV gpT (gpF m t p) n s) = false ∧ (whV gpT (gpF m t p) n s).1 = r
  | 0, s, r, h => by
    unfold gpR at h
    cases q : gpT s with
    | true => rw [q] at h; cases h
    | false => rw [q] at h; cases h; exact ⟨q, rfl⟩
  | n + 1, s, r, h => by
    unfold gpR at h
    unfold whV
    cases q : gpT s with
    | true =>
      rw [q, cond_true] at h
      rw [if_pos rfl]
      cases z : (!(s.2.2.fmod 2 == 1) || gmK p s.1 s.2.1) && (!decide (s.2.2.fdiv 2 > 0) || gmK p s.2.1 s.2.1) with
      | true => rw [z, cond_true] at h; exact gpR_wh h
      | false => rw [z] at h; cases h
    | false =>
      rw [q, cond_false] at h; cases h
      rw [if_neg (by decide)]
      exact ⟨q, rfl⟩
theorem gf_power_fn (B : Bs hb) {a m r : List Int} {n p t : Int} {k : Nat} (hp : 0 < p) (hp2 : p < 14) (hm0 : 0 < m.length) (hm : okL m = true) (ht : invV (lastV m) p = some t) (hn : 0 ≤ n) (ha : a.length ≤ 200) (h : gpR m t p k ([1], a, n) = some r) :
    Fn prog w hb 6 "gf_power" [.list (a.map .int), .int n, .list (m.map .int), .int p] β (.list (r.map .int)) β := by
  obtain ⟨hw1, hw2⟩ := gpR_wh h
  refine Fn.of_ex (names := ["a", "n", "m", "p"]) (rest := ["found", "square"]) (B.at 24 (by decide) _ (by decide +kernel)) B.lim (fun pm cd doc vs h => ?_) rfl (by decide +kernel) (by decide +kernel) (by decide +kernel) (by decide +kernel) (by decide +kernel) ?_
  · match vs, h with
    | [a0, a1, a2, a3], _ => kernel_rfl!
  show Ex prog w hb (scF 24) 5 ⟨[("a", .val _), ("n", .val _), ("m", .val _), ("p", .val _), ("found", .un), ("square", .un)], β⟩ (boF 24) _
  apply Ex.cons
  · apply Ex1.if_f
    · walk_at "ist"
    · exact decide_eq_false (by omega)
    · exact Ex.nil
  walk_at "go"
  apply Ex.cons
  · refine Ex1.while_run (fun (s : G3) => ⟨[("a", .val (.list (a.map .int))), ("n", .val (.int s.2.2)), ("m", .val (.list (m.map .int))), ("p", .val (.int p)), ("found", .val (.list (s.1.map .int))), ("square", .val (.list (s.2.1.map .int)))], β⟩) gpT (gpF m t p) (fun s => ∃ k, gpR m t p k s = some r) ?_ ?_ k ([1], a, n) ⟨k, h⟩ hw1
    · rintro ⟨f, q, n⟩ _
      dsimp only at *
      walk_at "ist"
    · rintro ⟨f, q, n⟩ ⟨k, h⟩ hn
      cases k with
      | zero => unfold gpR at h; rw [hn] at h; cases h
      | succ k =>
        unfold gpR at h
        rw [hn, cond_true] at h
        dsimp only at h ⊢
        cases z : (!(n.fmod 2 == 1) || gmK p f q) && (!decide (n.fdiv 2 > 0) || gmK p q q) with
        | false => rw [z] at h; cases h
        | true =>
          rw [z, cond_true] at h
          refine ⟨?_, k, h⟩
          simp only [Bool.and_eq_true, Bool.or_eq_true, Bool.not_eq_true'] at z
          unfold gpF
          dsimp only
          apply Ex.cons (σ' := ⟨[("a", .val (.list (a.map .int))), ("n", .val (.int n)), ("m", .val (.list (m.map .int))), ("p", .val (.int p)), ("found", .val (.list ((bif n.fmod 2 == 1 then gmV m t p f q else f).map .int))), ("square", .val (.list (q.map .int)))], β⟩)
          · cases hc : n.fmod 2 == 1
            · apply Ex1.if_f
              · walk_at "ist"
              · walk_at "cond"
              · walk_at "done"
            · have G := gf_multiply_fn (prog := prog) (w := w) (β := β) B (a := f) (b := q) hp hp2 hm0 hm ht (z.1.resolve_left (by rw [hc]; decide))
              apply Ex1.if_t
              · walk_at "ist"
              · walk_at "cond"
              · walk_at "go"
                walk_at "done"
          walk_at "go"
          apply Ex.one
          cases hc : decide (n.fdiv 2 > 0)
          · apply Ex1.if_f
            · walk_at "ist"
            · walk_at "cond"
            · walk_at "done"
          · have G := gf_multiply_fn (prog := prog) (w := w) (β := β) B (a := q) (b := q) hp hp2 hm0 hm ht (z.2.resolve_left (by rw [hc]; decide))
            apply Ex1.if_t
            · walk_at "ist"
            · walk_at "cond"
            · walk_at "go"
              walk_at "done"
  · rw [hw2]
    apply Ex.ret
    walk_at "st"

/-! gf_at -/
def gaF (m : List Int) (t p : Int) (a : List Int) (acc : List Int) (n : Int) : List Int := maddV (gmV m t p acc a) (msV [1] n p) p
def gaR (m : List Int) (t p : Int) (a : List Int) : List Int → List Int → Option (List Int)
  | [], acc => some acc
  | n :: l, acc => bif gmK p acc a && okL (gmV m t p acc a) && okL (msV [1] n p) then gaR m t p a l (gaF m t p a acc n) else none
theorem gaR_fold {m : List Int} {t p : Int} {a : List Int} : ∀ {l : List Int} {acc r : List Int}, gaR m t p a l acc = some r → l.foldl (gaF m t p a) acc = r
  | [], acc, r, h => by cases h; rfl
  | n :: l, acc, r, h => by
    unfold gaR at h
    cases z : gmK p acc a && okL (gmV m t p acc a) && okL (msV [1] n p) with
    | false => rw [z] at h; cases h
    | true => rw [z, cond_true] at h; exact (gaR_fold h : l.foldl (gaF m t p a) (gaF m t p a acc n) = r)
theorem gf_at_fn (B : Bs hb) {f a m r : List Int} {p t : Int} (hp : 0 < p) (hp2 : p < 14) (hm0 : 0 < m.length) (hm : okL m = true) (ht : invV (lastV m) p = some t) (hf : f.length ≤ 200) (h : gaR m t p a f.reverse [] = some r) :
    Fn prog w hb 6 "gf_at" [.list (f.map .int), .list (a.map .int), .list (m.map .int), .int p] β (.list (r.map .int)) β := by
  refine Fn.of_ex (names := ["f", "a", "m", "p"]) (rest := ["found", "number"]) (B.at 25 (by decide) _ (by decide +kernel)) B.lim (fun pm cd doc vs h => ?_) rfl (by decide +kernel) (by decide +kernel) (by decide +kernel) (by decide +kernel) (by decide +kernel) ?_
  · match vs, h with
    | [a0, a1, a2, a3], _ => kernel_rfl!
  show Ex prog w hb (scF 25) 5 ⟨[("f", .val _), ("a", .val _), ("m", .val _), ("p", .val _), ("found", .un), ("number", .un)], β⟩ (boF 25) _
  walk_at "go"
  apply Ex.cons
  · refine Ex1.for_fold (l := f.reverse) (g := fun n => .one (.int n)) (a0 := ([] : List Int)) (fun acc => ⟨[("f", .val (.list (f.map .int))), ("a", .val (.list (a.map .int))), ("m", .val (.list (m.map .int))), ("p", .val (.int p)), ("found", .val (.list (acc.map .int))), ("number", .un)], β⟩) (gaF m t p a) (fun acc l => gaR m t p a l acc = some r) ?_ rfl h ?_ (fun _ _ => rfl)
    · rw [show List.map (fun n => Itm.one (MV.int n)) f.reverse = (f.map MV.int).reverse.map .one by simp]
      walk_at "iter"
    · intro acc n l h
      unfold gaR at h
      cases z : gmK p acc a && okL (gmV m t p acc a) && okL (msV [1] n p) with
      | false => rw [z] at h; cases h
      | true =>
        rw [z, cond_true] at h
        simp only [Bool.and_eq_true] at z
        have G1 := gf_multiply_fn (prog := prog) (w := w) (β := β) B hp hp2 hm0 hm ht z.1.1
        have G2 := mscale_fn (prog := prog) (w := w) (β := β) B (a := [1]) (n := n) hp (by decide) (by simp)
        rw [show List.map MV.int [1] = [MV.int 1] from rfl] at G2
        have G3 := madd_fn (prog := prog) (w := w) (β := β) B (a := gmV m t p acc a) (b := msV [1] n p) hp (by have := okL_len z.1.2; omega) (by have := okL_len z.2; omega)
        apply turn_of
        · walk_at "asg"
        · walk_at "go"
          walk_at "done"
        · exact h
  · rw [gaR_fold h]
    apply Ex.ret
    walk_at "st"

/-- p == 2 or len(a) == 0 or gf_power(a, (gf_size(m, p) - 1) // 2, m, p) == [1] -/
theorem gf_is_square_fn (B : Bs hb) {a m r : List Int} {p t : Int} {k : Nat} (hp : 2 < p) (hp2 : p < 14) (hm0 : 0 < m.length) (hml : m.length ≤ 10) (hm : okL m = true) (ht : invV (lastV m) p = some t) (ha : a.length ≤ 200) (h : gpR m t p k ([1], a, (p ^ ((m.length : Int) - 1).toNat - 1).fdiv 2) = some r) (hr : r.length ≤ 200) :
    Fn prog w hb 7 "gf_is_square" [.list (a.map .int), .list (m.map .int), .int p] β (.bool (((a.length : Int) == 0) || decide (r = [1]))) β := by
  have h0 : (0 : Int) < p ^ ((m.length : Int) - 1).toNat := Int.pow_pos (by omega)
  have F1 := gf_size_fn (prog := prog) (w := w) (β := β) B (m := m) (p := p) (by omega) hp2 hm0 hml
  have F2 := gf_power_fn (prog := prog) (w := w) (β := β) B (by omega) hp2 hm0 hm ht (by rw [Int.fdiv_eq_ediv_of_nonneg _ (by decide)]; omega) ha h
  refine Fn.of_ex (names := ["a", "m", "p"]) (rest := []) (B.at 26 (by decide) _ (by decide +kernel)) B.lim (fun pm cd doc vs h => ?_) rfl (by decide +kernel) (by decide +kernel) (by decide +kernel) (by decide +kernel) (by decide +kernel) ?_
  · match vs, h with
    | [a0, a1, a2], _ => kernel_rfl!
  show Ex prog w hb (scF 26) 6 ⟨[("a", .val _), ("m", .val _), ("p", .val _)], β⟩ (boF 26) _
  apply Ex.ret
  apply Ex1.Return
  apply Ev.or (c := false)
  · apply Ev.cast
    · walk_at "ev"
    · rw [show (p == 2) = false by simp; omega]
  · intro h; cases h
  · intro _
    apply Ev.or
    · walk_at "ev"
    · intro h; rw [h]; exact ⟨rfl, rfl⟩
    · intro h
      rw [h, Bool.false_or]
      apply Ev.or_one
      apply Ev.cmp
      · walk_at "ev"
      · walk_at "ev"
      · exact Cmp.eq_ints r [1]
      · rfl
end
section
/-! lack -/
def lkF (f : List Int) (p : Int) (acc : Int) (x : Nat) : Int := bif matV x p f != 0 then acc + (bif pmV (matV x p f) ((p - 1).fdiv 2) p == 1 then -1 else 1) else acc
def lkV (f : List Int) (p : Int) : Int := (List.range p.toNat).foldl (lkF f p) 0
theorem lack_fn (B : Bs hb) {f : List Int} {p : Int} (hp : 0 < p) (hp2 : p < 100) (hf : f.length ≤ 200) : Fn prog w hb 2 "_law_lack" [.list (f.map .int), .int p] β (.int (lkV f p)) β := by
  refine Fn.of_ex (names := ["f", "p"]) (rest := ["found", "x", "v"]) (B.at 28 (by decide) _ (by decide +kernel)) B.lim (fun pm cd doc vs h => ?_) rfl (by decide +kernel) (by decide +kernel) (by decide +kernel) (by decide +kernel) (by decide +kernel) ?_
  · match vs, h with
    | [a0, a1], _ => kernel_rfl!
  show Ex prog w hb (scF 28) 1 ⟨[("f", .val _), ("p", .val _), ("found", .un), ("x", .un), ("v", .un)], β⟩ (boF 28) _
  walk_at "go"
  apply Ex.cons
  · refine Ex1.for_fold (l := List.range p.toNat) (g := fun i => .one (.int (i : Nat))) (a0 := (0 : Int)) (fun a => ⟨[("f", .val (.list (f.map .int))), ("p", .val (.int p)), ("found", .val (.int a)), ("x", .un), ("v", .un)], β⟩) (lkF f p) (fun _ _ => True) ?_ rfl trivial ?_ (fun _ _ => rfl)
    · apply Iter.cast
      · walk_at "iter"
      · rw [rg_list]
    · intro a x r _
      have F1 := mat_fn (prog := prog) (w := w) (β := β) B (x := (x : Int)) (ns := f) hp (by omega) (by omega)
      have F2 := power_mod_fn (prog := prog) (w := w) (β := β) B (a := matV x p f) (n := (p - 1).fdiv 2) hp (by omega) (by rw [Int.fdiv_eq_ediv_of_nonneg _ (by decide)]; omega)
      apply turn_of
      · walk_at "asg"
      · unfold lkF
        walk_at "go"
        cases hc : matV x p f != 0
        · apply Ex.cons
          · apply Ex1.if_f
            · walk_at "ist"
            · walk_at "cond"
            · exact Ex.nil
          walk_at "done"
        · apply Ex.cons
          · apply Ex1.if_t
            · walk_at "ist"
            · walk_at "cond"
            · apply Ex.one
              apply Ex1.assign
              · decide +kernel
              · apply Ev.bin
                · walk_at "ev"
                · apply Ev.ite (x := .int (bif pmV (matV x p f) ((p - 1).fdiv 2) p == 1 then -1 else 1))
                  · walk_at "ist"
                  · intro h
                    rw [h, cond_true]
                    walk_at "ev"
                  · intro h
                    rw [h, cond_false]
                    walk_at "ev"
                · walk_at "bin"
              · walk_at "put"
              · intro _; rfl
          walk_at "done"
      · trivial
  · apply Ex.ret
    unfold lkV
    walk_at "st"

/-! things of the field of nine -/
theorem gf_things_fn (B : Bs hb) : Fn prog w hb 3 "gf_things" [.list [.int 1, .int 0, .int 1], .int 3] β (.list ((List.range 9).map fun i => .list ((ctV (i : Nat) 3).map .int))) β := by
  have F1 := gf_size_fn (prog := prog) (w := w) (β := β) B (m := [1, 0, 1]) (p := 3) (by decide) (by decide) (by decide) (by decide)
  change Fn prog w hb 2 "gf_size" [.list [.int 1, .int 0, .int 1], .int 3] β (.int 9) β at F1
  have hct : ∀ i : Nat, i < 9 → (ctE i 3).1 ≤ 0 := by decide +kernel
  refine Fn.of_ex (names := ["m", "p"]) (rest := []) (B.at 21 (by decide) _ (by decide +kernel)) B.lim (fun pm cd doc vs h => ?_) rfl (by decide +kernel) (by decide +kernel) (by decide +kernel) (by decide +kernel) (by decide +kernel) ?_
  · match vs, h with
    | [a0, a1], _ => kernel_rfl!
  show Ex prog w hb (scF 21) 2 ⟨[("m", .val _), ("p", .val _)], β⟩ (boF 21) _
  apply Ex.ret
  apply Ex1.Return
  apply Ev.of_list
  refine EvL.comp_map (l := List.range 9) (g := fun i => .one (.int (i : Nat))) (f := fun i => .list ((ctV (i : Nat) 3).map .int)) (nms := ["m", "p"]) (cv := [("number", .un), ("p", .val (.int 3))]) (β1 := β) ?_ (by decide +kernel) rfl ?_ (by simp) ?_ (fun _ _ => rfl)
  · apply Iter.cast
    · walk_at "iter"
    · rw [rg_list]; rfl
  · walk_at "cv"
  · intro i hi
    have hi' : i < 9 := by simpa using hi
    have F2 := counted_fn (prog := prog) (w := w) (β := β) B (n := (i : Int)) (p := 3) (by decide) (by decide) (by omega) (hct i hi')
    apply TurnM.mk
    · walk_at "asgl"
    · walk_at "ev"
    · exact True.intro
    · walk_at "wk"

/-! points -/
abbrev P2 := Int × Int
def ptM : Option P2 → MV
  | none => .none
  | some a => .tup [.int a.1, .int a.2]
def adT (f1 f2 : Int) (one other : P2) : Int := bif one.1 == other.1 && one.2 == other.2 then 3 * one.1 * one.1 + 2 * f2 * one.1 + f1 else other.2 - one.2
def adB (one other : P2) : Int := bif one.1 == other.1 && one.2 == other.2 then 2 * one.2 else other.1 - one.1
def adX (f1 f2 p i : Int) (one other : P2) : Int := (((adT f1 f2 one other * i).fmod p) * ((adT f1 f2 one other * i).fmod p) - f2 - one.1 - other.1).fmod p
def adY (f1 f2 p i : Int) (one other : P2) : Int := ((adT f1 f2 one other * i).fmod p * (one.1 - adX f1 f2 p i one other) - one.2).fmod p
/-- two points added: none where the slope has no inverse -/
def adR (f1 f2 p : Int) (one other : P2) : Option (Option P2) :=
  bif one.1 == other.1 && (one.2 + other.2).fmod p == 0 then some none else
  match invV (adB one other) p with
  | none => none
  | some i => some (some (adX f1 f2 p i one other, adY f1 f2 p i one other))
def okP (a : P2) : Prop := (0 ≤ a.1 ∧ a.1 < 100) ∧ 0 ≤ a.2 ∧ a.2 < 100
theorem added_none (B : Bs hb) {q : P2} {f : List Int} {p : Int} : Fn prog w hb 3 "_law_added" [.none, .tup [.int q.1, .int q.2], .list (f.map .int), .int p] β (.tup [.int q.1, .int q.2]) β := by
  refine Fn.of_ex (names := ["one", "other", "f", "p"]) (rest := ["top", "bottom", "slope", "x"]) (B.at 29 (by decide) _ (by decide +kernel)) B.lim (fun pm cd doc vs h => ?_) rfl (by decide +kernel) (by decide +kernel) (by decide +kernel) (by decide +kernel) (by decide +kernel) ?_
  · match vs, h with
    | [a0, a1, a2, a3], _ => kernel_rfl!
  show Ex prog w hb (scF 29) 2 ⟨[("one", .val _), ("other", .val _), ("f", .val _), ("p", .val _), ("top", .un), ("bottom", .un), ("slope", .un), ("x", .un)], β⟩ (boF 29) _
  apply Ex.ret
  apply Ex1.if_t (c := true)
  · apply IsT.all
    apply IsAll.or (c := true)
    · apply IsT.cmp
      · walk_at "ev"
      · walk_at "ev"
      · exact Cmp.is_none .none (.inl rfl)
      · rfl
    · exact fun _ => ⟨rfl, rfl⟩
    · intro h; cases h
  · rfl
  · apply Ex.ret
    apply Ex1.Return
    apply Ev.ite_t
    · apply IsT.cmp
      · walk_at "ev"
      · walk_at "ev"
      · exact Cmp.is_none .none (.inl rfl)
      · rfl
    · rfl
    · walk_at "ev"
theorem added_some (B : Bs hb) {one other : P2} {f : List Int} {p f0 f1 f2 f3 : Int} {r : Option P2} (hp : 0 < p) (hp2 : p < 14) (hf : f = [f0, f1, f2, f3]) (h1 : 0 ≤ f1 ∧ f1 < 100) (h2 : 0 ≤ f2 ∧ f2 < 100) (ho : okP one) (ho2 : okP other) (hr : adR f1 f2 p one other = some r) :
    Fn prog w hb 3 "_law_added" [.tup [.int one.1, .int one.2], .tup [.int other.1, .int other.2], .list (f.map .int), .int p] β (ptM r) β := by
  obtain ⟨x1, y1⟩ := one
  obtain ⟨x2, y2⟩ := other
  obtain ⟨⟨a1, a2⟩, a3, a4⟩ := ho
  obtain ⟨⟨b1, b2⟩, b3, b4⟩ := ho2
  subst hf
  unfold adR at hr
  dsimp only at *
  refine Fn.of_ex (names := ["one", "other", "f", "p"]) (rest := ["top", "bottom", "slope", "x"]) (B.at 29 (by decide) _ (by decide +kernel)) B.lim (fun pm cd doc vs h => ?_) rfl (by decide +kernel) (by decide +kernel) (by decide +kernel) (by decide +kernel) (by decide +kernel) ?_
  · match vs, h with
    | [a0, a1, a2, a3], _ => kernel_rfl!
  show Ex prog w hb (scF 29) 2 ⟨[("one", .val _), ("other", .val _), ("f", .val _), ("p", .val _), ("top", .un), ("bottom", .un), ("slope", .un), ("x", .un)], β⟩ (boF 29) _
  apply Ex.cons (σ' := ⟨[("one", .val (.tup [.int x1, .int y1])), ("other", .val (.tup [.int x2, .int y2])), ("f", .val (.list [.int f0, .int f1, .int f2, .int f3])), ("p", .val (.int p)), ("top", .un), ("bottom", .un), ("slope", .un), ("x", .un)], β⟩)
  · apply Ex1.if_f (c := false)
    · apply IsT.all
      apply IsAll.or (c := false)
      · apply IsT.cmp
        · walk_at "ev"
        · walk_at "ev"
        · exact Cmp.is_none (.tup _) (.inr ⟨_, rfl⟩)
        · rfl
      · intro h; cases h
      · intro _
        apply IsAll.or (c := false)
        · apply IsT.cmp
          · walk_at "ev"
          · walk_at "ev"
          · exact Cmp.is_none (.tup _) (.inr ⟨_, rfl⟩)
          · rfl
        · intro h; cases h
        · intro _; exact IsAll.nil_or
    · rfl
    · walk_at "done"
  cases hc : x1 == x2 && (y1 + y2).fmod p == 0
  · rw [hc, cond_false] at hr
    cases hi : invV (adB (x1, y1) (x2, y2)) p with
    | none => rw [hi] at hr; cases hr
    | some i =>
      rw [hi] at hr
      cases hr
      have hxx : 0 ≤ x1 * x1 ∧ x1 * x1 < 10000 := ⟨Int.mul_nonneg a1 a1, by have := Int.mul_le_mul (show x1 ≤ 99 by omega) (show x1 ≤ 99 by omega) a1 (by decide); omega⟩
      have hfx : 0 ≤ f2 * x1 ∧ f2 * x1 < 10000 := ⟨Int.mul_nonneg h2.1 a1, by have := Int.mul_le_mul (show f2 ≤ 99 by omega) (show x1 ≤ 99 by omega) a1 (by decide); omega⟩
      apply Ex.cons (σ' := ⟨[("one", .val (.tup [.int x1, .int y1])), ("other", .val (.tup [.int x2, .int y2])), ("f", .val (.list [.int f0, .int f1, .int f2, .int f3])), ("p", .val (.int p)), ("top", .un), ("bottom", .un), ("slope", .un), ("x", .un)], β⟩)
      · apply Ex1.if_f
        · apply IsT.and2
          · walk_at "ist"
          · intro _
            walk_at "ist"
        · exact hc
        · walk_at "done"
      have F1 := inverse_mod_fn (prog := prog) (w := w) (β := β) B (a := adB (x1, y1) (x2, y2)) hp hp2
      rw [hi] at F1
      change Fn prog w hb 2 "inverse_mod" [.int (adB (x1, y1) (x2, y2)), .int p] β (.int i) β at F1
      apply Ex.cons (σ' := ⟨[("one", .val (.tup [.int x1, .int y1])), ("other", .val (.tup [.int x2, .int y2])), ("f", .val (.list [.int f0, .int f1, .int f2, .int f3])), ("p", .val (.int p)), ("top", .val (.int (adT f1 f2 (x1, y1) (x2, y2)))), ("bottom", .val (.int (adB (x1, y1) (x2, y2)))), ("slope", .un), ("x", .un)], β⟩)
      · unfold adT adB
        dsimp only
        cases he : x1 == x2 && y1 == y2
        · apply Ex1.if_f
          · apply IsT.cmp
            · walk_at "ev"
            · walk_at "ev"
            · exact Cmp.eq_pair _ _ _ _
            · rfl
          · exact he
          · walk_at "go"
            walk_at "done"
        · apply Ex1.if_t
          · apply IsT.cmp
            · walk_at "ev"
            · walk_at "ev"
            · exact Cmp.eq_pair _ _ _ _
            · rfl
          · exact he
          · walk_at "go"
            walk_at "done"
      have hT : -100000 ≤ adT f1 f2 (x1, y1) (x2, y2) ∧ adT f1 f2 (x1, y1) (x2, y2) ≤ 100000 := by
        unfold adT
        cases x1 == x2 && y1 == y2
        · simp only [cond_false]; omega
        · simp only [cond_true]
          rw [Int.mul_assoc 3, Int.mul_assoc 2]; omega
      unfold adX adY adX
      dsimp only
      generalize adT f1 f2 (x1, y1) (x2, y2) = top at *
      generalize adB (x1, y1) (x2, y2) = bottom at *
      have hs := fmod_sm (a := top * i) hp
      walk_at "go"
      generalize (top * i).fmod p = slope at *
      walk_at "go"
      dsimp only [ptM]
      apply Ex.ret
      walk_at "st"
  · rw [hc, cond_true] at hr
    cases hr
    apply Ex.ret
    apply Ex1.if_t
    · apply IsT.and2
      · walk_at "ist"
      · intro _
        walk_at "ist"
    · exact hc
    · apply Ex.ret
      show Ex1 prog w hb _ _ _ _ (.ret .none β)
      walk_at "st"
end
section
/-! by nine -/
def bnW (v : List Int) : Option Int := bif decide (v = []) then some 1 else
  match gpR [1, 0, 1] 1 3 4 ([1], v, 4) with
  | none => none
  | some r => bif decide (v.length ≤ 200) && decide (r.length ≤ 200) then some (bif ((v.length : Int) == 0) || decide (r = [1]) then 2 else 0) else none
def bnS (f : List Int) (i : Nat) : Option Int :=
  match gaR [1, 0, 1] 1 3 (ctV i 3) f.reverse [] with
  | none => none
  | some v => bnW v
def bnF (f : List Int) (acc : Int) (i : Nat) : Int := acc + (bnS f i).getD 0
theorem by_nine_fn (B : Bs hb) {f : List Int} (hf : f.length ≤ 200) (h : ∀ i, i < 9 → (bnS f i).isSome = true) : Fn prog w hb 8 "_law_by_nine" [.list (f.map .int)] β (.int ((List.range 9).foldl (bnF f) 0)) β := by
  have F0 := gf_things_fn (prog := prog) (w := w) (β := β) B
  have ht : invV (lastV [1, 0, 1]) 3 = some 1 := by decide +kernel
  refine Fn.of_ex (names := ["f"]) (rest := ["found", "one", "v"]) (B.at 31 (by decide) _ (by decide +kernel)) B.lim (fun pm cd doc vs h => ?_) rfl (by decide +kernel) (by decide +kernel) (by decide +kernel) (by decide +kernel) (by decide +kernel) ?_
  · match vs, h with
    | [a0], _ => kernel_rfl!
  show Ex prog w hb (scF 31) 7 ⟨[("f", .val _), ("found", .un), ("one", .un), ("v", .un)], β⟩ (boF 31) _
  walk_at "go"
  apply Ex.cons
  · refine Ex1.for_fold (l := List.range 9) (g := fun i => .one (.list ((ctV (i : Nat) 3).map .int))) (a0 := (0 : Int)) (fun a => ⟨[("f", .val (.list (f.map .int))), ("found", .val (.int a)), ("one", .un), ("v", .un)], β⟩) (bnF f) (fun _ l => ∀ i ∈ l, i < 9) ?_ rfl (fun i h => by simpa using h) ?_ (fun _ _ => rfl)
    · apply Iter.cast
      · walk_at "iter"
      · rw [List.map_map]; rfl
    · intro a i r hi
      have h9 := hi i (List.mem_cons_self ..)
      have hs := h i h9
      unfold bnF
      cases hv : gaR [1, 0, 1] 1 3 (ctV i 3) f.reverse [] with
      | none => unfold bnS at hs; rw [hv] at hs; cases hs
      | some v =>
        have F1 := gf_at_fn (prog := prog) (w := w) (β := β) B (m := [1, 0, 1]) (p := 3) (by decide) (by decide) (by decide) (by decide +kernel) ht hf hv
        change Fn prog w hb 6 "gf_at" [.list (f.map .int), .list ((ctV i 3).map .int), .list [.int 1, .int 0, .int 1], .int 3] β (.list (v.map .int)) β at F1
        have e0 : bnS f i = bnW v := by unfold bnS; rw [hv]
        rw [e0] at hs ⊢
        apply turn_of
        · walk_at "asg"
        · walk_at "go"
          apply Ex.cons
          · apply Ex1.assign
            · decide +kernel
            · apply Ev.bin
              · walk_at "ev"
              · apply Ev.ite (c := decide (v = [])) (x := .int ((bnW v).getD 0))
                · apply IsT.cmp
                  · walk_at "ev"
                  · walk_at "ev"
                  · exact Cmp.eq_ints v []
                  · rfl
                · intro hq
                  unfold bnW
                  rw [hq, cond_true]
                  exact Ev.int
                · intro hq
                  unfold bnW at hs ⊢
                  rw [hq, cond_false] at hs ⊢
                  cases hr : gpR [1, 0, 1] 1 3 4 ([1], v, 4) with
                  | none => rw [hr] at hs; cases hs
                  | some r =>
                    rw [hr] at hs
                    dsimp only at hs ⊢
                    cases hz : decide (v.length ≤ 200) && decide (r.length ≤ 200) with
                    | false => rw [hz] at hs; cases hs
                    | true =>
                      rw [cond_true]
                      simp only [Bool.and_eq_true, decide_eq_true_eq] at hz
                      have F2 := gf_is_square_fn (prog := prog) (w := w) (β := β) B (a := v) (m := [1, 0, 1]) (p := 3) (k := 4) (by decide) (by decide) (by decide) (by decide) (by decide +kernel) ht hz.1 hr hz.2
                      change Fn prog w hb 7 "gf_is_square" [.list (v.map .int), .list [.int 1, .int 0, .int 1], .int 3] β (.bool (((v.length : Int) == 0) || decide (r = [1]))) β at F2
                      apply Ev.ite (c := ((v.length : Int) == 0) || decide (r = [1]))
                      · apply IsT.of_bool
                        · walk_at "ev"
                        · intro _ _; rfl
                      · intro hb1
                        rw [hb1]
                        exact Ev.int
                      · intro hb1
                        rw [hb1]
                        exact Ev.int
              · walk_at "bin"
            · walk_at "put"
            · intro _; rfl
          walk_at "done"
        · exact fun j hj => hi j (List.mem_cons_of_mem _ hj)
  · apply Ex.ret
    walk_at "st"

/-! the draw -/
def tkV (sc : List Int) (k many : Int) : Int := if k + 1 ≤ sc.length then ((if sc.getD k.toNat 0 < 0 then -(sc.getD k.toNat 0) else sc.getD k.toNat 0)).fmod many else (5 * (k + 1) + (k + 1).fdiv 3).fmod many
theorem take_fn (B : Bs hb) {sc : List Int} {k many : Int} (hk : 0 ≤ k) (hk2 : k < 1000) (hm : 0 < many) (hs : sc.length ≤ 200) : Fn prog w hb 1 "_law_take" [.box, .int many] (sc, k) (.int (tkV sc k many)) (sc, k + 1) := by
  have ent : Ex prog w hb (scF 27) 0 ⟨[("box", .val .box), ("many", .val (.int many))], (sc, k)⟩ (boF 27) (.ret (.int (tkV sc k many)) (sc, k + 1)) := by
    apply Ex.cons
    · apply Ex1.box_set
      · apply Ev.bin
        · apply Ev.box1
          · walk_at "ev"
          · walk_at "ev"
          · rfl
        · walk_at "ev"
        · walk_at "bin"
      · walk_at "ev"
      · walk_at "ev"
      · intro _; rfl
    dsimp only
    cases hc : decide (k + 1 ≤ (sc.length : Int))
    · apply Ex.cons
      · apply Ex1.if_f (c := decide (k + 1 ≤ (sc.length : Int)))
        · apply IsT.cmp
          · apply Ev.box1
            · walk_at "ev"
            · walk_at "ev"
            · rfl
          · apply Ev.b_len_ints
            · exact B.len
            · decide +kernel
            · rfl
            · apply Ev.box0
              · walk_at "ev"
              · walk_at "ev"
              · rfl
            · dsimp only; omega
          · exact Cmp.le_int _ _
          · rfl
        · exact hc
        · exact Ex.nil
      apply Ex.ret
      unfold tkV
      rw [if_neg (of_decide_eq_false hc)]
      apply Ex1.Return
      apply Ev.bin
      · apply Ev.bin
        · apply Ev.bin
          · walk_at "ev"
          · apply Ev.box1
            · walk_at "ev"
            · walk_at "ev"
            · rfl
          · walk_at "bin"
        · apply Ev.bin
          · apply Ev.box1
            · walk_at "ev"
            · walk_at "ev"
            · rfl
          · walk_at "ev"
          · walk_at "bin"
        · walk_at "bin"
      · walk_at "ev"
      · walk_at "bin"
    · have hc' := of_decide_eq_true hc
      apply Ex.ret
      apply Ex1.if_t (c := decide (k + 1 ≤ (sc.length : Int)))
      · apply IsT.cmp
        · apply Ev.box1
          · walk_at "ev"
          · walk_at "ev"
          · rfl
        · apply Ev.b_len_ints
          · exact B.len
          · decide +kernel
          · rfl
          · apply Ev.box0
            · walk_at "ev"
            · walk_at "ev"
            · rfl
          · dsimp only; omega
        · exact Cmp.le_int _ _
        · rfl
      · exact hc
      · apply Ex.ret
        unfold tkV
        rw [if_pos hc']
        apply Ex1.Return
        have hx := ints_get (a := sc) (i := k.toNat) (k := k + 1 - 1) (by omega) (by omega)
        apply Ev.bin
        · apply Ev.b_abs
          · exact B.abs
          · decide +kernel
          · rfl
          · apply Ev.item
            · apply Ev.box0
              · walk_at "ev"
              · walk_at "ev"
              · rfl
            · apply Ev.bin
              · apply Ev.box1
                · walk_at "ev"
                · walk_at "ev"
                · rfl
              · walk_at "ev"
              · walk_at "bin"
            · rfl
            · dsimp only; omega
            · dsimp only; omega
            · exact hx
        · walk_at "ev"
        · walk_at "bin"
  refine Fn.of_ex (names := ["box", "many"]) (rest := []) (B.at 27 (by decide) _ (by decide +kernel)) B.lim (fun pm cd doc vs h => ?_) rfl (by decide +kernel) (by decide +kernel) (by decide +kernel) (by decide +kernel) (by decide +kernel) ent
  match vs, h with
  | [a, b], _ => kernel_rfl!
end
section
def vlV (f : List Int) (p : Int) : List Int := (List.range p.toNat).map fun x => matV (x : Nat) p f
def rowV (vals : List Int) (p : Int) (x : Nat) : List P2 := ((List.range p.toNat).filter fun (y : Nat) => (((y : Int) * y - vals.getD x 0).fmod p == 0)).map fun (y : Nat) => ((x : Int), (y : Int))
def ptsV (f : List Int) (p : Int) : List P2 := (List.range p.toNat).flatMap (rowV (vlV f p) p)
def cbF (f1 f2 p : Int) (pt : P2) (h : Option P2) (_ : Nat) : Option P2 := match h with
  | none => some pt
  | some q => (adR f1 f2 p q pt).getD none
def cbR (f1 f2 p : Int) (pt : P2) : Nat → Option P2 → Option (Option P2)
  | 0, h => some h
  | n + 1, none => cbR f1 f2 p pt n (some pt)
  | n + 1, some q => match adR f1 f2 p q pt with
    | none => none
    | some r => cbR f1 f2 p pt n r
theorem cbR_fold {f1 f2 p : Int} {pt : P2} : ∀ {l : List Nat} {h r : Option P2}, cbR f1 f2 p pt l.length h = some r → l.foldl (cbF f1 f2 p pt) h = r
  | [], h, r, e => by cases e; rfl
  | _ :: l, none, r, e => (cbR_fold (l := l) e : l.foldl (cbF f1 f2 p pt) (some pt) = r)
  | _ :: l, some q, r, e => by
    simp only [List.length_cons, cbR] at e
    cases z : adR f1 f2 p q pt with
    | none => rw [z] at e; cases e
    | some r' =>
      rw [z] at e
      have : cbF f1 f2 p pt (some q) 0 = r' := by unfold cbF; dsimp only; rw [z]; rfl
      show l.foldl (cbF f1 f2 p pt) (cbF f1 f2 p pt (some q) 0) = r
      rw [this]
      exact cbR_fold (l := l) e
def mvP (a : P2) : MV := .tup [.int a.1, .int a.2]
theorem adR_ok {f1 f2 p : Int} {q pt : P2} {r : Option P2} (hp : 0 < p) (hp2 : p < 14) (e : adR f1 f2 p q pt = some r) : ∀ z, r = some z → okP z := by
  unfold adR at e
  rintro z rfl
  cases hc : q.1 == pt.1 && (q.2 + pt.2).fmod p == 0 with
  | true => rw [hc] at e; cases e
  | false =>
    rw [hc, cond_false] at e
    cases hi : invV (adB q pt) p with
    | none => rw [hi] at e; cases e
    | some i =>
      rw [hi] at e
      cases e
      have h1 := fmod_sm (a := ((adT f1 f2 q pt * i).fmod p) * ((adT f1 f2 q pt * i).fmod p) - f2 - q.1 - pt.1) hp
      have h2 := fmod_sm (a := (adT f1 f2 q pt * i).fmod p * (q.1 - adX f1 f2 p i q pt) - q.2) hp
      refine ⟨⟨?_, ?_⟩, ?_, ?_⟩
      · exact h1.1
      · show adX f1 f2 p i q pt < 100; unfold adX; omega
      · exact h2.1
      · show adY f1 f2 p i q pt < 100; unfold adY; omega
theorem pts_ok {f : List Int} {p : Int} (hp2 : p < 14) : ∀ a ∈ ptsV f p, okP a := by
  intro a ha
  unfold ptsV rowV at ha
  simp only [List.mem_flatMap, List.mem_range, List.mem_map, List.mem_filter] at ha
  obtain ⟨x, hx, y, ⟨hy, _⟩, rfl⟩ := ha
  refine ⟨⟨?_, ?_⟩, ?_, ?_⟩ <;> dsimp only <;> omega
theorem pts_len {f : List Int} {p : Int} (hp2 : p < 14) : (ptsV f p).length ≤ 10000 := by
  have h1 : ∀ l : List Nat, (l.flatMap (rowV (vlV f p) p)).length ≤ l.length * 13 := by
    intro l
    induction l with
    | nil => simp
    | cons x l ih =>
      rw [List.flatMap_cons, List.length_append, List.length_cons]
      have : (rowV (vlV f p) p x).length ≤ 13 := by
        unfold rowV
        rw [List.length_map]
        have := List.length_filter_le (fun (y : Nat) => (((y : Int) * y - (vlV f p).getD x 0).fmod p == 0)) (List.range p.toNat)
        rw [List.length_range] at this
        omega
      omega
  have := h1 (List.range p.toNat)
  rw [List.length_range] at this
  unfold ptsV
  omega
theorem comes_back_fn (B : Bs hb) {f sc : List Int} {p many k f0 f1 f2 f3 : Int} (hp : 0 < p) (hp2 : p < 14) (hf : f = [f0, f1, f2, f3]) (h1 : 0 ≤ f1 ∧ f1 < 100) (h2 : 0 ≤ f2 ∧ f2 < 100) (hk : 0 ≤ k) (hk2 : k < 900) (hs : sc.length ≤ 200)
    (hm : ((ptsV f p).length : Int) + 1 = many) (hrun : ∀ pt ∈ ptsV f p, cbR f1 f2 p pt many.toNat none = some none) :
    Fn prog w hb 4 "_law_comes_back" [.box, .list (f.map .int), .int p, .int many] (sc, k) (.bool true) (if (ptsV f p).length = 0 then (sc, k) else (sc, k + 1)) := by
  have hpl := pts_len (f := f) hp2
  have hpo := pts_ok (f := f) hp2
  have ent : Ex prog w hb (scF 30) 3 ⟨[("box", .val .box), ("f", .val (.list (f.map .int))), ("p", .val (.int p)), ("many", .val (.int many)), ("values", .un), ("points", .un), ("point", .un), ("here", .un), ("turn", .un)], (sc, k)⟩ (boF 30) (.ret (.bool true) (if (ptsV f p).length = 0 then (sc, k) else (sc, k + 1))) := by
    apply Ex.cons
    · refine Ex1.assign_own' (vs' := [("box", .val .box), ("f", .val (.list (f.map .int))), ("p", .val (.int p)), ("many", .val (.int many)), ("values", .own true ((List.range p.toNat).map fun x => .int (matV (x : Nat) p f))), ("points", .un), ("point", .un), ("here", .un), ("turn", .un)]) (β1 := (sc, k))
        (by decide +kernel) (EvL.comp_map (l := List.range p.toNat) (g := fun i => .one (.int (i : Nat))) (f := fun x => .int (matV (x : Nat) p f)) (nms := ["box", "f", "p", "many", "values", "points", "point", "here", "turn"]) (cv := [("x", .un), ("f", .val (.list (f.map .int))), ("p", .val (.int p))])
        ?_ (by decide +kernel) rfl ?_ (by simp; omega) ?_ (fun _ _ => rfl)) ?_ (by intro env h; cases env; cases h; kernel_rfl!)
      · apply Iter.cast
        · walk_at "iter"
        · rw [rg_list]
      · walk_at "cv"
      · intro x hx
        have F1 := mat_fn (prog := prog) (w := w) (β := ((sc, k) : Bx)) B (x := (x : Int)) (ns := f) hp (by omega) (by rw [hf]; simp)
        apply TurnM.mk
        · walk_at "asgl"
        · walk_at "ev"
        · exact True.intro
        · walk_at "wk"
      · walk_at "put"
    rw [show ((List.range p.toNat).map fun (x : Nat) => MV.int (matV (x : Nat) p f)) = (vlV f p).map .int by unfold vlV; rw [List.map_map]; rfl]
    apply Ex.freeze (x := "values")
    · walk_at "get"
    · walk_at "put"
    have hvl : (vlV f p).length = p.toNat := by simp [vlV]
    apply Ex.cons
    · refine Ex1.assign_comp_nest (l := List.range p.toNat) (g := fun i => .one (.int (i : Nat))) (F := fun x => (rowV (vlV f p) p x).map mvP) (nms := ["box", "f", "p", "many", "values", "points", "point", "here", "turn"]) (cv := [("x", .un), ("y", .un), ("p", .val (.int p)), ("values", .val (.list ((vlV f p).map .int)))]) (β1 := (sc, k))
        (vs' := [("box", .val .box), ("f", .val (.list (f.map .int))), ("p", .val (.int p)), ("many", .val (.int many)), ("values", .val (.list ((vlV f p).map .int))), ("points", .own true ((List.range p.toNat).flatMap fun x => (rowV (vlV f p) p x).map mvP)), ("point", .un), ("here", .un), ("turn", .un)])
        (by decide +kernel) ?_ (by decide +kernel) rfl ?_ ?_ (fun _ _ => rfl) ?_ (by intro env h; cases env; cases h; kernel_rfl!)
      · apply Iter.cast
        · walk_at "iter"
        · rw [rg_list]
      · walk_at "cv"
      · intro i x hi
        obtain ⟨hlt, rfl⟩ := List.getElem?_eq_some_iff.mp hi
        rw [List.length_range] at hlt
        rw [List.getElem_range]
        apply TurnM.mk
        · walk_at "asgl"
        · rw [show (rowV (vlV f p) p i).map mvP = ((List.range p.toNat).filter fun (y : Nat) => (((y : Int) * y - (vlV f p).getD i 0).fmod p == 0)).map (mvP ∘ fun (y : Nat) => ((i : Int), (y : Int))) by unfold rowV; rw [List.map_map]]
          refine Emit.filter (l := List.range p.toNat) (g := fun i => .one (.int (i : Nat))) (f := mvP ∘ fun (y : Nat) => ((i : Int), (y : Int))) (t := fun (y : Nat) => (((y : Int) * y - (vlV f p).getD i 0).fmod p == 0)) _ ?_ ?_ ?_ (fun _ _ => rfl)
          · apply Iter.cast
            · walk_at "iter"
            · rw [rg_list]
          · have h3 : ∀ l : List Nat, (l.flatMap fun x => (rowV (vlV f p) p x).map mvP).length ≤ l.length * 13 := by
              intro l
              induction l with
              | nil => simp
              | cons x l ih =>
                rw [List.flatMap_cons, List.length_append, List.length_cons, List.length_map]
                have : (rowV (vlV f p) p x).length ≤ 13 := by
                  unfold rowV
                  rw [List.length_map]
                  have := List.length_filter_le (fun (y : Nat) => (((y : Int) * y - (vlV f p).getD x 0).fmod p == 0)) (List.range p.toNat)
                  rw [List.length_range] at this
                  omega
                omega
            have := h3 ((List.range p.toNat).take i)
            rw [List.length_take, List.length_range] at this
            rw [List.length_range]
            refine Nat.le_trans (Nat.add_le_add_right (Nat.le_trans this (show _ ≤ 1000 by omega)) _) (show 1000 + p.toNat ≤ 16777216 by omega)
          · intro y hy
            have hy' : y < p.toNat := by simpa using hy
            have hx := ints_get (a := vlV f p) (i := i) (k := (i : Int)) (by omega) rfl
            apply TurnM.mk
            · walk_at "asgl"
            · refine ⟨?_, fun _ => ?_⟩
              · walk_at "ist"
              · unfold mvP
                dsimp only [Function.comp]
                walk_at "ev"
            · exact True.intro
            · walk_at "wk"
        · exact True.intro
        · walk_at "wk"
      · walk_at "put"
    rw [show ((List.range p.toNat).flatMap fun x => (rowV (vlV f p) p x).map mvP) = (ptsV f p).map mvP by unfold ptsV; rw [List.map_flatMap]]
    apply Ex.freeze (x := "points")
    · walk_at "get"
    · walk_at "put"
    generalize hP : ptsV f p = pts at *
    apply Ex.cons (σ' := ⟨[("box", .val .box), ("f", .val (.list (f.map .int))), ("p", .val (.int p)), ("many", .val (.int many)), ("values", .val (.list ((vlV f p).map .int))), ("points", .val (.list (pts.map mvP))), ("point", .un), ("here", .un), ("turn", .un)], (sc, k)⟩)
    · apply Ex1.if_f
      · apply IsT.cmp
        · walk_at "ev"
        · walk_at "ev"
        · exact Cmp.ne_int _ _
        · rfl
      · rw [List.length_map, hm]; simp
      · walk_at "done"
    by_cases h0 : pts.length = 0
    · rw [if_pos h0]
      apply Ex.ret
      apply Ex1.if_t
      · apply IsT.cmp
        · walk_at "ev"
        · walk_at "ev"
        · exact Cmp.eq_nil _
        · rfl
      · rw [List.length_map, h0]; rfl
      · apply Ex.ret
        walk_at "st"
    · rw [if_neg h0]
      apply Ex.cons (σ' := ⟨[("box", .val .box), ("f", .val (.list (f.map .int))), ("p", .val (.int p)), ("many", .val (.int many)), ("values", .val (.list ((vlV f p).map .int))), ("points", .val (.list (pts.map mvP))), ("point", .un), ("here", .un), ("turn", .un)], (sc, k)⟩)
      · apply Ex1.if_f
        · apply IsT.cmp
          · walk_at "ev"
          · walk_at "ev"
          · exact Cmp.eq_nil _
          · rfl
        · rw [List.length_map]; simpa using h0
        · walk_at "done"
      have hl0 : (0 : Int) < pts.length := by omega
      have F1 := take_fn (prog := prog) (w := w) B (sc := sc) (k := k) (many := (pts.length : Int)) hk (by omega) hl0 hs
      have hidx : 0 ≤ tkV sc k pts.length ∧ tkV sc k pts.length < pts.length := by
        unfold tkV
        split
        · exact fmod_sm hl0
        · exact fmod_sm hl0
      obtain ⟨j, hj⟩ : ∃ j : Nat, tkV sc k pts.length = j := ⟨(tkV sc k pts.length).toNat, by omega⟩
      rw [hj] at F1 hidx
      have hjl : j < pts.length := by omega
      obtain ⟨pt, hpt⟩ : ∃ pt, pts[j]? = some pt := ⟨_, List.getElem?_eq_getElem hjl⟩
      have hmem : pt ∈ pts := List.mem_of_getElem? hpt
      have hgx : (pts.map mvP)[(j : Int).toNat]? = some (mvP pt) := by rw [Int.toNat_natCast, List.getElem?_map, hpt]; rfl
      apply Ex.cons (σ' := ⟨[("box", .val .box), ("f", .val (.list (f.map .int))), ("p", .val (.int p)), ("many", .val (.int many)), ("values", .val (.list ((vlV f p).map .int))), ("points", .val (.list (pts.map mvP))), ("point", .val (mvP pt)), ("here", .val .none), ("turn", .un)], (sc, k + 1)⟩)
      · apply Ex1.assign_tup2
        · apply Ev.tup
          · apply Evs.cons
            · apply Ev.item
              · walk_at "ev"
              · apply Ev.fn2
                · decide +kernel
                · rfl
                · apply Evs.cons
                  · walk_at "ev"
                  · apply Evs.cons
                    · apply Ev.cast
                      · walk_at "ev"
                      · rw [List.length_map]
                    · exact Evs.nil
                    · rfl
                  · rfl
                · exact F1
                · decide
              · rfl
              · walk_at "side"
              · walk_at "side"
              · exact hgx
            · walk_at "evs"
            · rfl
          · walk_at "side"
        · decide +kernel
        · decide +kernel
        · walk_at "put"
        · walk_at "put"
        · (intro _; rfl)
        · (intro env h; cases env; cases h; kernel_rfl!)
      have hr := hrun pt hmem
      apply Ex.cons
      · refine Ex1.for_fold (l := List.range many.toNat) (g := fun i => .one (.int (i : Nat))) (a0 := (none : Option P2)) (fun h => ⟨[("box", .val .box), ("f", .val (.list (f.map .int))), ("p", .val (.int p)), ("many", .val (.int many)), ("values", .val (.list ((vlV f p).map .int))), ("points", .val (.list (pts.map mvP))), ("point", .val (mvP pt)), ("here", .val (ptM h)), ("turn", .un)], (sc, k + 1)⟩) (cbF f1 f2 p pt)
          (fun h l => cbR f1 f2 p pt l.length h = some none ∧ ∀ z, h = some z → okP z) ?_ rfl ⟨by rw [List.length_range]; exact hr, fun z h => by cases h⟩ ?_ (fun _ _ => rfl)
        · apply Iter.cast
          · walk_at "iter"
          · rw [rg_list]
        · intro h i l ⟨hq, ho⟩
          cases h with
          | none =>
            have G := added_none (prog := prog) (w := w) (β := ((sc, k + 1) : Bx)) B (q := pt) (f := f) (p := p)
            apply turn_of
            · walk_at "asg"
            · apply Ex.cons (σ' := ⟨[("box", .val .box), ("f", .val (.list (f.map .int))), ("p", .val (.int p)), ("many", .val (.int many)), ("values", .val (.list ((vlV f p).map .int))), ("points", .val (.list (pts.map mvP))), ("point", .val (mvP pt)), ("here", .val (ptM (some pt))), ("turn", .val (.int i))], (sc, k + 1)⟩)
              · unfold mvP ptM
                walk_at "st"
              · walk_at "done"
            · exact ⟨hq, fun z e => by cases e; exact hpo _ hmem⟩
          | some q =>
            simp only [List.length_cons, cbR] at hq
            cases za : adR f1 f2 p q pt with
            | none => rw [za] at hq; cases hq
            | some r =>
              rw [za] at hq
              have G := added_some (prog := prog) (w := w) (β := ((sc, k + 1) : Bx)) B (one := q) (other := pt) (f := f) hp hp2 hf h1 h2 (ho q rfl) (hpo _ hmem) za
              have er : cbF f1 f2 p pt (some q) i = r := by unfold cbF; dsimp only; rw [za]; rfl
              rw [er]
              apply turn_of
              · walk_at "asg"
              · apply Ex.cons (σ' := ⟨[("box", .val .box), ("f", .val (.list (f.map .int))), ("p", .val (.int p)), ("many", .val (.int many)), ("values", .val (.list ((vlV f p).map .int))), ("points", .val (.list (pts.map mvP))), ("point", .val (mvP pt)), ("here", .val (ptM r)), ("turn", .val (.int i))], (sc, k + 1)⟩)
                · unfold mvP
                  show Ex1 prog w hb _ _ ⟨[_, _, _, _, _, _, _, ("here", .val (.tup [.int q.1, .int q.2])), _], _⟩ _ _
                  walk_at "st"
                · walk_at "done"
              · exact ⟨hq, adR_ok hp hp2 za⟩
      · rw [cbR_fold (l := List.range many.toNat) (by rw [List.length_range]; exact hr)]
        apply Ex.ret
        apply Ex1.Return
        apply Ev.cmp
        · walk_at "ev"
        · walk_at "ev"
        · exact Cmp.is_none .none (.inl rfl)
        · rfl
  refine Fn.of_ex (names := ["box", "f", "p", "many"]) (rest := ["values", "points", "point", "here", "turn"]) (B.at 30 (by decide) _ (by decide +kernel)) B.lim (fun pm cd doc vs h => ?_) rfl (by decide +kernel) (by decide +kernel) (by decide +kernel) (by decide +kernel) (by decide +kernel) ent
  match vs, h with
  | [a, b, c, d], _ => kernel_rfl!
end
section
def dL (p : Int) : List Int := (rgInts 2 1 (p - 2).toNat).filter fun x => pmV x ((p - 1).fdiv 2) p != 1
def twL (p c b a d : Int) : List Int := [(c * d ^ (3 : Nat)).fmod p, (b * d * d).fmod p, (a * d).fmod p, 1]
def raV (raised : List Int) (p : Int) : Int := if decide ((raised.length : Int) ≥ p) = true then raised.getD (p - 1).toNat 0 else 0
structure LawOk (p c b a : Int) : Prop where
  ex : ∃ (t d ti : Int) (raised r : List Int) (n : Nat), lkV [c, b, a, 1] p = t ∧ mpR p (List.replicate ((p - 1).fdiv 2).toNat [c, b, a, 1]) [1] = some raised ∧ raised.length ≤ 200 ∧ (t - raV raised p).fmod p = 0 ∧
    (dL p)[0]? = some d ∧ 0 ≤ d ∧ d < 100 ∧ lkV (twL p c b a d) p = 0 - t ∧ ((a == 0 && ((b == 0 && p.fmod 3 == 2) || (c == 0 && p.fmod 4 == 3))) && t != 0) = false ∧
    mgR p n ([c, b, a, 1], mtV (mderV [c, b, a, 1] p)) = some r ∧ okL r = true ∧ 0 < r.length ∧ invV (lastV r) p = some ti ∧ (-100 ≤ t ∧ t ≤ 100) ∧
    (if msV r ti p = [1] then t * t ≤ 4 * p ∧ ((ptsV [c, b, a, 1] p).length : Int) + 1 = p - t + 1 ∧ (∀ pt ∈ ptsV [c, b, a, 1] p, cbR b a p pt (p - t + 1).toNat none = some none) ∧ (3 < p ∨ (p ≤ 3 ∧ (∀ i, i < 9 → (bnS [c, b, a, 1] i).isSome = true) ∧ (List.range 9).foldl (bnF [c, b, a, 1]) 0 = 15 - t * t))
      else ([-1, 0, 1].any fun y => y == t) = true)
theorem mder_len (f : List Int) (p : Int) : (mderV f p).length ≤ f.length := by
  unfold mderV mtV mderL
  rw [List.length_take, List.length_drop, List.length_map, List.length_zipIdx]
  omega
theorem law_run (B : Bs hb) (hpr : GlobInts hb "_law_primes" [7, 5, 11, 13, 3]) {script : List Int} {p c b a : Int} (hs : script.length ≤ 100) (hpi : ∃ j : Nat, tkV (script.take 5) 0 5 = j ∧ ([7, 5, 11, 13, 3] : List Int)[j]? = some p) (hp : 2 < p) (hp2 : p < 14)
    (hc : tkV (script.take 5) 1 p = c) (hb1 : tkV (script.take 5) 2 p = b) (ha : tkV (script.take 5) 3 3 = a) (L : LawOk p c b a) :
    ExN prog w hb (scF 32) 9 ⟨[("script", .val (.list (script.map .int))), ("box", .un), ("p", .un), ("c", .un), ("b", .un), ("a", .un), ("f", .un), ("t", .un), ("raised", .un), ("d", .un), ("slope", .un)], ([], 0)⟩ (boF 32) := by
  obtain ⟨t, d, ti, raised, r, n, e1, e2, e3, e4, e5, e6, e7, e8, e9, e10, e11, e12, e13, e14, e15⟩ := L.ex
  obtain ⟨j, hj, hjp⟩ := hpi
  have bc : 0 ≤ c ∧ c < p := by rw [← hc]; unfold tkV; split <;> exact fmod_sm (by omega)
  have bb : 0 ≤ b ∧ b < p := by rw [← hb1]; unfold tkV; split <;> exact fmod_sm (by omega)
  have ba : 0 ≤ a ∧ a < 3 := by rw [← ha]; unfold tkV; split <;> exact fmod_sm (by omega)
  have hsl : (script.take 5).length ≤ 200 := by rw [List.length_take]; omega
  have T0 := take_fn (prog := prog) (w := w) B (sc := script.take 5) (k := 0) (many := 5) (by decide) (by decide) (by decide) hsl
  have T1 := take_fn (prog := prog) (w := w) B (sc := script.take 5) (k := 0 + 1) (many := p) (by decide) (by decide) (by omega) hsl
  have T2 := take_fn (prog := prog) (w := w) B (sc := script.take 5) (k := 0 + 1 + 1) (many := p) (by decide) (by decide) (by omega) hsl
  have T3 := take_fn (prog := prog) (w := w) B (sc := script.take 5) (k := 0 + 1 + 1 + 1) (many := 3) (by decide) (by decide) (by decide) hsl
  rw [hj] at T0
  rw [show (0 : Int) + 1 = 1 from rfl, hc] at T1
  rw [show (0 : Int) + 1 + 1 = 2 from rfl, hb1] at T2
  rw [show (0 : Int) + 1 + 1 + 1 = 3 from rfl, ha] at T3
  rw [show (0 : Int) + 1 = 1 from rfl] at T0
  rw [show (1 : Int) + 1 = 2 from rfl] at T1
  rw [show (2 : Int) + 1 = 3 from rfl] at T2
  rw [show (3 : Int) + 1 = 4 from rfl] at T3
  have hj5 : j < 5 := by
    have := (List.getElem?_eq_some_iff.mp hjp).1
    simpa using this
  apply ExN.cons
  · walk_at "own"
  rw [show List.take (5 : Int).toNat (script.map MV.int) = (script.take 5).map .int by rw [List.map_take]; rfl]
  apply ExN.box (x := "box")
  · walk_at "get"
  · walk_at "put"
  generalize script.take 5 = sc at *
  apply ExB.cons
  · apply Ex1.assign
    · decide +kernel
    · apply Ev.glob_item (j := j)
      · decide +kernel
      · exact hpr
      · apply Ev.fn2
        · decide +kernel
        · rfl
        · walk_at "evs"
        · exact T0
        · decide
      · rfl
      · omega
      · omega
      · show seqIndex? (j : Int) 5 = some j
        have : j = 0 ∨ j = 1 ∨ j = 2 ∨ j = 3 ∨ j = 4 := by omega
        rcases this with rfl | rfl | rfl | rfl | rfl <;> decide
      · exact hjp
    · walk_at "put"
    · intro _; rfl
  apply ExB.cons
  · walk_at "st"
  apply ExB.cons
  · walk_at "st"
  have fm : List.map MV.int [c, b, a, 1] = [MV.int c, MV.int b, MV.int a, MV.int 1] := rfl
  have hfd : 0 ≤ (p - 1).fdiv 2 ∧ (p - 1).fdiv 2 ≤ 100 := by rw [Int.fdiv_eq_ediv_of_nonneg _ (by decide)]; omega
  have hfl : ([c, b, a, 1] : List Int).length = 4 := rfl
  have L1 := lack_fn (prog := prog) (w := w) (β := ((sc, 4) : Bx)) B (f := [c, b, a, 1]) (p := p) (by omega) (by omega) (by simp)
  rw [e1, fm] at L1
  have M1 := mproduct_fn (prog := prog) (w := w) (β := ((sc, 4) : Bx)) B (show 0 < p by omega) e2
  rw [List.map_replicate, fm] at M1
  apply ExB.cons
  · walk_at "st"
  apply ExB.cons (σ' := ⟨[("script", .val (.list (script.map .int))), ("box", .val .box), ("p", .val (.int p)), ("c", .val (.int c)), ("b", .val (.int b)), ("a", .val (.int a)), ("f", .val (.list [.int c, .int b, .int a, .int 1])), ("t", .val (.int t)), ("raised", .val (.list (raised.map .int))), ("d", .un), ("slope", .un)], (sc, 4)⟩)
  · apply Ex1.if_f
    · apply IsT.cmp
      · apply Ev.bin
        · apply Ev.bin
          · walk_at "ev"
          · apply Ev.ite (c := decide ((raised.length : Int) ≥ p)) (x := .int (raV raised p))
            · walk_at "ist"
            · intro h
              unfold raV
              rw [if_pos h]
              rw [decide_eq_true_eq] at h
              have hx := ints_get (a := raised) (i := (p - 1).toNat) (k := p - 1) (by omega) (by omega)
              walk_at "ev"
            · intro h
              unfold raV
              rw [if_neg (by rw [h]; decide)]
              walk_at "ev"
          · walk_at "bin"
        · walk_at "ev"
        · walk_at "bin"
      · walk_at "ev"
      · exact Cmp.ne_int _ _
      · rfl
    · rw [e4]; rfl
    · walk_at "done"
  have hget : (((rgInts 2 1 (p - 2).toNat).filter fun x => pmV x ((p - 1).fdiv 2) p != 1).map MV.int)[(0 : Int).toNat]? = some (.int d) := by
    rw [List.getElem?_map, show (0 : Int).toNat = 0 from rfl]
    show Option.map MV.int (dL p)[0]? = _
    rw [e5]; rfl
  apply ExB.cons (σ' := ⟨[("script", .val (.list (script.map .int))), ("box", .val .box), ("p", .val (.int p)), ("c", .val (.int c)), ("b", .val (.int b)), ("a", .val (.int a)), ("f", .val (.list [.int c, .int b, .int a, .int 1])), ("t", .val (.int t)), ("raised", .val (.list (raised.map .int))), ("d", .val (.int d)), ("slope", .un)], (sc, 4)⟩)
  · apply Ex1.assign
    · decide +kernel
    · apply Ev.item
      · apply Ev.of_list
        refine EvL.comp_filter (l := rgInts 2 1 (p - 2).toNat) (g := fun i => .one (.int i)) (f := MV.int) (t := fun x => pmV x ((p - 1).fdiv 2) p != 1) (nms := ["script", "box", "p", "c", "b", "a", "f", "t", "raised", "d", "slope"]) (cv := [("one", .un), ("p", .val (.int p))]) (β1 := (sc, 4)) ?_ (by decide +kernel) rfl ?_ (by simp [rgInts]; omega) ?_ (fun _ _ => rfl)
        · walk_at "iter"
        · walk_at "cv"
        · intro x hx
          have F2 := power_mod_fn (prog := prog) (w := w) (β := ((sc, 4) : Bx)) B (a := x) (n := (p - 1).fdiv 2) (m := p) (by omega) (by omega) (by rw [Int.fdiv_eq_ediv_of_nonneg _ (by decide)]; omega)
          apply TurnM.mk
          · walk_at "asgl"
          · refine ⟨?_, fun _ => ?_⟩
            · walk_at "ist"
            · walk_at "ev"
          · exact True.intro
          · walk_at "wk"
      · walk_at "ev"
      · rfl
      · decide
      · decide
      · exact hget
    · walk_at "put"
    · intro _; rfl
  have hbd : 0 ≤ b * d ∧ b * d < 10000 := ⟨Int.mul_nonneg bb.1 e6, by have := Int.mul_le_mul (show b ≤ 99 by omega) (show d ≤ 99 by omega) e6 (by decide); omega⟩
  have L2 := lack_fn (prog := prog) (w := w) (β := ((sc, 4) : Bx)) B (f := twL p c b a d) (p := p) (by omega) (by omega) (by simp [twL])
  rw [e8] at L2
  unfold twL at L2
  rw [show ∀ x y z u : Int, List.map MV.int [x, y, z, u] = [MV.int x, MV.int y, MV.int z, MV.int u] from fun _ _ _ _ => rfl] at L2
  apply ExB.cons (σ' := ⟨[("script", .val (.list (script.map .int))), ("box", .val .box), ("p", .val (.int p)), ("c", .val (.int c)), ("b", .val (.int b)), ("a", .val (.int a)), ("f", .val (.list [.int c, .int b, .int a, .int 1])), ("t", .val (.int t)), ("raised", .val (.list (raised.map .int))), ("d", .val (.int d)), ("slope", .un)], (sc, 4)⟩)
  · apply Ex1.if_f
    · apply IsT.cmp
      · apply Ev.fn2
        · decide +kernel
        · rfl
        · apply Evs.cons
          · walk_at "ev"
          · apply Evs.cons
            · walk_at "ev"
            · exact Evs.nil
            · rfl
          · rfl
        · exact L2
        · decide
      · walk_at "ev"
      · exact Cmp.ne_int _ _
      · rfl
    · simp
    · walk_at "done"
  apply ExB.cons (σ' := ⟨[("script", .val (.list (script.map .int))), ("box", .val .box), ("p", .val (.int p)), ("c", .val (.int c)), ("b", .val (.int b)), ("a", .val (.int a)), ("f", .val (.list [.int c, .int b, .int a, .int 1])), ("t", .val (.int t)), ("raised", .val (.list (raised.map .int))), ("d", .val (.int d)), ("slope", .un)], (sc, 4)⟩)
  · apply Ex1.if_f (c := (a == 0 && ((b == 0 && p.fmod 3 == 2) || (c == 0 && p.fmod 4 == 3)) && t != 0))
    · apply IsT.all
      apply IsAll.and (c := a == 0)
      · walk_at "ist"
      · intro h; rw [h]; exact ⟨rfl, rfl⟩
      · intro h
        rw [h, Bool.true_and]
        apply IsAll.and (c := ((b == 0 && p.fmod 3 == 2) || (c == 0 && p.fmod 4 == 3)))
        · apply IsT.or2
          · apply IsT.and2
            · walk_at "ist"
            · intro _
              walk_at "ist"
          · intro _
            apply IsT.and2
            · walk_at "ist"
            · intro _
              walk_at "ist"
        · intro h; rw [h]; exact ⟨rfl, rfl⟩
        · intro h
          rw [h, Bool.true_and]
          apply IsAll.and (c := t != 0)
          · walk_at "ist"
          · intro h; exact ⟨h, rfl⟩
          · intro h
            rw [h]
            exact IsAll.nil_and
    · exact e9
    · walk_at "done"
  have D1 := mderive_fn (prog := prog) (w := w) (β := ((sc, 4) : Bx)) B (a := [c, b, a, 1]) (p := p) (by omega) (by simp)
  rw [fm] at D1
  have hml := mder_len [c, b, a, 1] p
  rw [hfl] at hml
  have D2 := mtrim_fn (prog := prog) (w := w) (β := ((sc, 4) : Bx)) B (xs := mderV [c, b, a, 1] p) (by omega)
  apply ExB.cons (σ' := ⟨[("script", .val (.list (script.map .int))), ("box", .val .box), ("p", .val (.int p)), ("c", .val (.int c)), ("b", .val (.int b)), ("a", .val (.int a)), ("f", .val (.list [.int c, .int b, .int a, .int 1])), ("t", .val (.int t)), ("raised", .val (.list (raised.map .int))), ("d", .val (.int d)), ("slope", .val (.list ((mtV (mderV [c, b, a, 1] p)).map .int)))], (sc, 4)⟩)
  · walk_at "st"
  have G1 := mgcd_fn (prog := prog) (w := w) (β := ((sc, 4) : Bx)) B (show 0 < p by omega) hp2 e10 e11 e12 e13
  rw [fm] at G1
  by_cases hg1 : msV r ti p = [1]
  · rw [if_pos hg1] at e15
    obtain ⟨f1, f2, f3, f4⟩ := e15
    apply ExB.cons (σ' := ⟨[("script", .val (.list (script.map .int))), ("box", .val .box), ("p", .val (.int p)), ("c", .val (.int c)), ("b", .val (.int b)), ("a", .val (.int a)), ("f", .val (.list [.int c, .int b, .int a, .int 1])), ("t", .val (.int t)), ("raised", .val (.list (raised.map .int))), ("d", .val (.int d)), ("slope", .val (.list ((mtV (mderV [c, b, a, 1] p)).map .int)))], (sc, 4)⟩)
    · apply Ex1.if_f
      · apply IsT.cmp
        · walk_at "ev"
        · walk_at "ev"
        · exact Cmp.ne_ints (msV r ti p) [1]
        · rfl
      · rw [hg1]; rfl
      · walk_at "done"
    have C1 := comes_back_fn (prog := prog) (w := w) B (f := [c, b, a, 1]) (sc := sc) (p := p) (many := p - t + 1) (k := 4) (f0 := c) (f1 := b) (f2 := a) (f3 := 1) (by omega) hp2 rfl (by omega) (by omega) (by decide) (by decide) hsl f2 f3
    rw [fm] at C1
    generalize (if (ptsV [c, b, a, 1] p).length = 0 then ((sc, 4) : Bx) else (sc, 4 + 1)) = β2 at C1
    apply ExB.cons (σ' := ⟨[("script", .val (.list (script.map .int))), ("box", .val .box), ("p", .val (.int p)), ("c", .val (.int c)), ("b", .val (.int b)), ("a", .val (.int a)), ("f", .val (.list [.int c, .int b, .int a, .int 1])), ("t", .val (.int t)), ("raised", .val (.list (raised.map .int))), ("d", .val (.int d)), ("slope", .val (.list ((mtV (mderV [c, b, a, 1] p)).map .int)))], β2⟩)
    · apply Ex1.if_f (c := false)
      · apply IsT.all
        apply IsAll.or (c := decide (t * t > 4 * p))
        · walk_at "ist"
        · intro h
          rw [decide_eq_true_eq] at h
          omega
        · intro _
          apply IsAll.or (c := !true)
          · apply IsT.not
            apply IsT.of_bool
            · walk_at "ev"
            · intro _ _; rfl
          · intro h; cases h
          · intro _
            exact IsAll.nil_or
      · rfl
      · walk_at "done"
    rcases f4 with f4 | ⟨f4, f5, f6⟩
    · refine ExB.of_ex (β := β2) ?_
      apply Ex.ret
      apply Ex1.Return
      apply Ev.or
      · walk_at "ev"
      · intro _; exact ⟨rfl, rfl⟩
      · intro h
        rw [decide_eq_false_iff_not] at h
        omega
    · have N1 := by_nine_fn (prog := prog) (w := w) (β := β2) B (f := [c, b, a, 1]) (by simp) f5
      rw [fm, f6] at N1
      refine ExB.of_ex (β := β2) ?_
      apply Ex.ret
      apply Ex1.Return
      apply Ev.or
      · walk_at "ev"
      · intro _; exact ⟨rfl, rfl⟩
      · intro _
        apply Ev.or_one
        apply Ev.cast
        · walk_at "ev"
        · simp
  · rw [if_neg hg1] at e15
    refine ExB.of_ex (β := (sc, 4)) ?_
    apply Ex.ret
    apply Ex1.if_t
    · apply IsT.cmp
      · walk_at "ev"
      · walk_at "ev"
      · exact Cmp.ne_ints (msV r ti p) [1]
      · rfl
    · simpa using hg1
    · apply Ex.ret
      apply Ex1.Return
      rw [← e15]
      apply Ev.cmp
      · walk_at "ev"
      · walk_at "ev"
      · exact Cmp.in_ints t [-1, 0, 1]
      · rfl
end
end Mine
end
section
open PySem
set_option Elab.async false
set_option maxRecDepth 100000
namespace Mine
theorem fmN (m n : Nat) : Int.fmod (m : Int) n = ((m % n : Nat) : Int) := by
  rw [Int.fmod_eq_emod_of_nonneg _ (by omega)]; rfl
theorem hmN (u x v p : Nat) : (u % p * x + v) % p = (u * x + v) % p := by
  rw [Nat.add_mod, Nat.mul_mod, Nat.mod_mod, ← Nat.mul_mod, ← Nat.add_mod]
def evN (p c b a x : Nat) : Nat := Nat.mod (Nat.add (Nat.mul (Nat.add (Nat.mul (Nat.add x a) x) b) x) c) p
theorem evN_eq (p c b a x : Nat) : matV (x : Int) p [(c : Int), b, a, 1] = (evN p c b a x : Nat) := by
  show ((((0 * (x : Int) + 1).fmod p * x + a).fmod p * x + b).fmod p * x + c).fmod p = _
  rw [show (0 * (x : Int) + 1) = ((1 : Nat) : Int) by omega, fmN]
  rw [show ((1 % p : Nat) : Int) * x + a = ((1 % p * x + a : Nat) : Int) by push_cast; rfl, fmN]
  rw [show (((1 % p * x + a) % p : Nat) : Int) * x + b = (((1 % p * x + a) % p * x + b : Nat) : Int) by push_cast; rfl, fmN]
  rw [show (((((1 % p * x + a) % p * x + b) % p : Nat) : Int) * x + c) = ((((1 % p * x + a) % p * x + b) % p * x + c : Nat) : Int) by push_cast; rfl, fmN]
  congr 1
  show _ = (((x + a) * x + b) * x + c) % p
  rw [hmN 1 x a, hmN (1 * x + a) x b, hmN ((1 * x + a) * x + b) x c, Nat.one_mul]
end Mine
end
section
open PySem
set_option Elab.async false
set_option maxRecDepth 100000
namespace Mine
def isP (p : Nat) : Prop := p = 3 ∨ p = 5 ∨ p = 7 ∨ p = 11 ∨ p = 13
def qrT (p : Nat) : Nat := match p with
  | 3 => 2
  | 5 => 18
  | 7 => 22
  | 11 => 570
  | 13 => 5658
  | _ => 0
theorem chi_eq {p : Nat} (hp : isP p) : ∀ v, v < p → v ≠ 0 → (pmV v (((p : Nat) : Int) - 1 |>.fdiv 2) p == 1) = Nat.beq (Nat.mod (Nat.shiftRight (qrT p) v) 2) 1 := by
  rcases hp with rfl | rfl | rfl | rfl | rfl <;> decide +kernel
def lkS (p c b a t : Nat) (acc : Int) (x : Nat) : Int := (fun v => cond (Nat.beq v 0) acc (cond (Nat.beq (Nat.mod (Nat.shiftRight t v) 2) 1) (Int.add acc (-1)) (Int.add acc 1))) (evN p c b a x)
def lkN (p c b a : Nat) : Int := (List.range p).foldl (lkS p c b a (qrT p)) 0
theorem lkN_eq {p : Nat} (hp : isP p) (c b a : Nat) : lkV [(c : Int), b, a, 1] p = lkN p c b a := by
  unfold lkV lkN
  rw [Int.toNat_natCast]
  congr 1
  funext acc x
  unfold lkF lkS
  rw [evN_eq]
  have hlt : evN p c b a x < p := Nat.mod_lt _ (by rcases hp with rfl | rfl | rfl | rfl | rfl <;> decide)
  generalize evN p c b a x = v at *
  by_cases h0 : v = 0
  · subst h0; rfl
  · have h1 : ((v : Int) != 0) = true := by simp; exact h0
    have h2 : Nat.beq v 0 = false := by
      cases v with
      | zero => exact absurd rfl h0
      | succ n => rfl
    dsimp only
    rw [h1, h2, cond_true, cond_false, chi_eq hp v hlt h0]
    cases Nat.beq (Nat.mod (Nat.shiftRight (qrT p) v) 2) 1 <;> rfl
end Mine
end
section
open PySem
set_option Elab.async false
set_option maxRecDepth 100000
namespace Mine
/-! the points -/
def rowN (p c b a x : Nat) : List Nat := (fun v => (List.range p).filter fun y => Nat.beq (Nat.mod (Nat.mul y y) p) v) (evN p c b a x)
def ptsN (p c b a : Nat) : List (Nat × Nat) := (List.range p).flatMap fun x => (rowN p c b a x).map fun y => (x, y)
def cP (q : Nat × Nat) : P2 := ((q.1 : Int), (q.2 : Int))
theorem sub_fmod {p : Nat} (hp : 0 < p) (m v : Nat) (hv : v < p) : (((m : Int) - v).fmod p == 0) = Nat.beq (m % p) v := by
  rw [Int.fmod_eq_emod_of_nonneg _ (by omega)]
  have e : ((m : Int) - v) % p = 0 ↔ m % p = v := by
    rw [← Int.emod_eq_emod_iff_emod_sub_eq_zero, Int.emod_eq_of_lt (a := (v : Int)) (by omega) (by omega)]
    constructor
    · intro h
      have : ((m % p : Nat) : Int) = v := by rw [Int.natCast_emod]; exact h
      omega
    · rintro rfl
      exact (Int.natCast_emod m p).symm
  rw [Bool.eq_iff_iff]
  constructor
  · intro h
    rw [e.mp (beq_iff_eq.mp h)]
    exact Nat.beq_refl v
  · intro h
    exact beq_iff_eq.mpr (e.mpr (Nat.eq_of_beq_eq_true h))
theorem flatMap_ext {α γ : Type} {l : List α} {f g : α → List γ} (h : ∀ x ∈ l, f x = g x) : l.flatMap f = l.flatMap g := by
  induction l with
  | nil => rfl
  | cons x l ih => rw [List.flatMap_cons, List.flatMap_cons, h x (List.mem_cons_self ..), ih fun y hy => h y (List.mem_cons_of_mem _ hy)]
theorem pts_eq {p : Nat} (hp : isP p) (c b a : Nat) : ptsV [(c : Int), b, a, 1] p = (ptsN p c b a).map cP := by
  have hp0 : 0 < p := by rcases hp with rfl | rfl | rfl | rfl | rfl <;> decide
  unfold ptsV ptsN
  rw [Int.toNat_natCast, List.map_flatMap]
  apply flatMap_ext
  intro x hx
  have hx' : x < p := by simpa using hx
  unfold rowV rowN
  rw [Int.toNat_natCast, List.map_map]
  have hv : (vlV [(c : Int), b, a, 1] p).getD x 0 = evN p c b a x := by
    unfold vlV
    rw [Int.toNat_natCast, List.getD_eq_getElem?_getD, List.getElem?_map, List.getElem?_range hx']
    exact evN_eq ..
  rw [hv]
  have hf : ∀ y : Nat, (((y : Int) * y - (evN p c b a x : Nat)).fmod p == 0) = Nat.beq (Nat.mod (Nat.mul y y) p) (evN p c b a x) := by
    intro y
    rw [show (y : Int) * y = ((y * y : Nat) : Int) by push_cast; rfl]
    exact sub_fmod hp0 _ _ (Nat.mod_lt _ hp0)
  simp only [hf]
  rfl
end Mine
end
section
open PySem
set_option Elab.async false
set_option maxRecDepth 100000
namespace Mine
def ivT (p : Nat) : Nat := match p with
  | 3 => 0x210
  | 5 => 0x42310
  | 7 => 0x6325410
  | 11 => 0xA5782934610
  | 13 => 0xC64352B8A9710
  | _ => 0
def ivN (t r : Nat) : Nat := Nat.mod (Nat.shiftRight t (Nat.mul 4 r)) 16
theorem inv_eq {p : Nat} (hp : isP p) : ∀ r, r < p → invV (r : Int) p = if r = 0 then none else some ((ivN (ivT p) r : Nat) : Int) := by
  rcases hp with rfl | rfl | rfl | rfl | rfl <;> decide +kernel
theorem fmod_to {E : Int} {N p : Nat} (hp : 0 < p) (k : Int) (h : E + k * p = N) : E.fmod p = ((N % p : Nat) : Int) := by
  rw [Int.fmod_eq_emod_of_nonneg _ (by omega), Int.natCast_emod, ← h, Int.add_mul_emod_self_right]
theorem invV_fmod {p : Nat} (hp : 0 < p) (B : Int) : invV B p = invV (B.fmod p) p := by
  unfold invV
  have : (B.fmod p).fmod p = B.fmod p := by
    rw [Int.fmod_eq_emod_of_nonneg _ (by omega), Int.fmod_eq_emod_of_nonneg _ (by omega)]
    exact Int.emod_emod_of_dvd _ (Int.dvd_refl _)
  rw [this]
def nxS (p a x y x2 s : Nat) (k : Nat → Nat → Bool) : Bool :=
  (fun x' => k x' (Nat.mod (Nat.sub (Nat.add (Nat.mul s (Nat.sub (Nat.add x p) x')) p) y) p)) (Nat.mod (Nat.sub (Nat.sub (Nat.sub (Nat.add (Nat.mul s s) (Nat.mul 3 p)) a) x) x2) p)
def stS (p a t x y x2 r top : Nat) (k : Nat → Nat → Bool) : Bool := cond (Nat.beq r 0) false (nxS p a x y x2 (Nat.mod (Nat.mul top (ivN t r)) p) k)
def cbN (p b a t x2 y2 : Nat) : Nat → Nat → Nat → Bool → Bool
  | 0, _, _, inf => inf
  | n + 1, x, y, inf => cond inf (cbN p b a t x2 y2 n x2 y2 false)
      (cond (Nat.beq x x2) (cond (Nat.beq (Nat.mod (Nat.add y y2) p) 0) (cbN p b a t x2 y2 n 0 0 true)
          (cond (Nat.beq y y2) (stS p a t x y x2 (Nat.mod (Nat.mul 2 y) p) (Nat.add (Nat.mul (Nat.add (Nat.mul 3 x) (Nat.mul 2 a)) x) b) fun x y => cbN p b a t x2 y2 n x y false) false))
        (stS p a t x y x2 (Nat.mod (Nat.sub (Nat.add x2 p) x) p) (Nat.sub (Nat.add y2 p) y) fun x y => cbN p b a t x2 y2 n x y false))
theorem nx_eq {p a b x y x2 y2 i : Nat} {top : Int} {topN : Nat} {kt : Int} (hp0 : 0 < p) (ha : a < p) (hx : x < p) (hy : y < p) (hx2 : x2 < p) (hT : adT b a (cP (x, y)) (cP (x2, y2)) = top) (ht : top + kt * p = topN) :
    let s := topN * i % p
    let x' := (s * s + 3 * p - a - x - x2) % p
    (adX b a p i (cP (x, y)) (cP (x2, y2)), adY b a p i (cP (x, y)) (cP (x2, y2))) = cP (x', (s * (x + p - x') + p - y) % p) := by
  intro s x'
  have hs : (top * (i : Int)).fmod p = (s : Nat) := fmod_to hp0 (kt * i) (by
    show _ = ((topN * i : Nat) : Int)
    push_cast
    rw [← ht]; grind)
  have hX : adX b a p i (cP (x, y)) (cP (x2, y2)) = (x' : Nat) := by
    unfold adX
    rw [hT, hs]
    refine fmod_to hp0 3 ?_
    show (s : Int) * s - a - x - x2 + 3 * p = _
    have : a + x + x2 ≤ s * s + 3 * p := by
      have := Nat.zero_le (s * s); omega
    generalize hss : s * s = ss at *
    have e : (s : Int) * s = (ss : Nat) := by rw [← hss]; push_cast; rfl
    rw [e]; omega
  have hx' : x' < p := Nat.mod_lt _ hp0
  refine Prod.ext hX ?_
  show adY b a p i (cP (x, y)) (cP (x2, y2)) = _
  unfold adY
  rw [hX, hT, hs]
  refine fmod_to hp0 (s + 1) ?_
  show (s : Int) * ((x : Int) - x') - y + (s + 1) * p = _
  have h1 : y ≤ s * (x + p - x') + p := by omega
  have h2 : ((s * (x + p - x') + p - y : Nat) : Int) = (s : Int) * ((x + p - x' : Nat) : Int) + p - y := by omega
  rw [h2, show ((x + p - x' : Nat) : Int) = (x : Int) + p - x' by omega]
  grind
end Mine
end
section
open PySem
set_option Elab.async false
set_option maxRecDepth 100000
namespace Mine
theorem beq_no {m n : Nat} (h : Nat.beq m n = false) : m ≠ n := by
  rintro rfl
  rw [Nat.beq_refl] at h; cases h
theorem ibeq (m n : Nat) : ((m : Int) == (n : Int)) = Nat.beq m n := by
  rw [Bool.eq_iff_iff, beq_iff_eq]
  constructor
  · intro h
    have : m = n := by omega
    subst this; exact Nat.beq_refl _
  · intro h
    have := Nat.eq_of_beq_eq_true h
    omega
/-- one step where the slope is there -/
theorem ad_step {p b a x y x2 y2 r topN : Nat} {kt kb : Int} (hp : isP p) (ha : a < p) (hx : x < p) (hy : y < p) (hx2 : x2 < p) (hc : ((x : Int) == x2 && ((y : Int) + y2).fmod p == 0) = false)
    (ht : adT b a (cP (x, y)) (cP (x2, y2)) + kt * p = topN) {N : Nat} (hb : adB (cP (x, y)) (cP (x2, y2)) + kb * p = N) (hr : r = N % p) (hr0 : Nat.beq r 0 = false) :
    let s := topN * ivN (ivT p) r % p
    let x' := (s * s + 3 * p - a - x - x2) % p
    adR b a p (cP (x, y)) (cP (x2, y2)) = some (some (cP (x', (s * (x + p - x') + p - y) % p))) := by
  have hp0 : 0 < p := by rcases hp with rfl | rfl | rfl | rfl | rfl <;> decide
  intro s x'
  unfold adR
  rw [show ((cP (x, y)).1 == (cP (x2, y2)).1 && ((cP (x, y)).2 + (cP (x2, y2)).2).fmod (p : Int) == 0) = false from hc, cond_false]
  have hi : invV (adB (cP (x, y)) (cP (x2, y2))) p = some ((ivN (ivT p) r : Nat) : Int) := by
    rw [invV_fmod hp0, fmod_to hp0 kb hb, ← hr, inv_eq hp r (hr ▸ Nat.mod_lt _ hp0), if_neg (beq_no hr0)]
  rw [hi]
  have := nx_eq (y2 := y2) (i := ivN (ivT p) r) hp0 ha hx hy hx2 rfl ht
  dsimp only at this ⊢
  rw [this]
theorem cb_eq {p b a x2 y2 : Nat} (hp : isP p) (ha : a < p) (hx2 : x2 < p) (hy2 : y2 < p) : ∀ (n x y : Nat) (inf : Bool), x < p → y < p → cbN p b a (ivT p) x2 y2 n x y inf = true →
    cbR b a p (cP (x2, y2)) n (if inf = true then none else some (cP (x, y))) = some none := by
  have hp0 : 0 < p := by rcases hp with rfl | rfl | rfl | rfl | rfl <;> decide
  intro n
  induction n with
  | zero =>
    intro x y inf _ _ h
    have : inf = true := h
    subst this; rfl
  | succ n ih =>
    intro x y inf hx hy h
    cases inf with
    | true => exact ih x2 y2 false hx2 hy2 h
    | false =>
      have h' : cond (Nat.beq x x2) (cond (Nat.beq (Nat.mod (Nat.add y y2) p) 0) (cbN p b a (ivT p) x2 y2 n 0 0 true)
          (cond (Nat.beq y y2) (stS p a (ivT p) x y x2 (Nat.mod (Nat.mul 2 y) p) (Nat.add (Nat.mul (Nat.add (Nat.mul 3 x) (Nat.mul 2 a)) x) b) fun x y => cbN p b a (ivT p) x2 y2 n x y false) false))
          (stS p a (ivT p) x y x2 (Nat.mod (Nat.sub (Nat.add x2 p) x) p) (Nat.sub (Nat.add y2 p) y) fun x y => cbN p b a (ivT p) x2 y2 n x y false) = true := h
      clear h
      show (match adR b a p (cP (x, y)) (cP (x2, y2)) with | none => none | some r => cbR b a p (cP (x2, y2)) n r) = some none
      have hsum : ((y : Int) + y2).fmod p = (((y + y2) % p : Nat) : Int) := fmod_to hp0 0 (by push_cast; omega)
      cases hxx : Nat.beq x x2 with
      | true =>
        rw [hxx, cond_true] at h'
        have e := Nat.eq_of_beq_eq_true hxx
        subst e
        cases hs : Nat.beq (Nat.mod (Nat.add y y2) p) 0 with
        | true =>
          rw [hs, cond_true] at h'
          have : adR b a p (cP (x, y)) (cP (x, y2)) = some none := by
            unfold adR
            rw [show ((cP (x, y)).1 == (cP (x, y2)).1 && ((cP (x, y)).2 + (cP (x, y2)).2).fmod (p : Int) == 0) = true by
              show ((x : Int) == x && ((y : Int) + y2).fmod p == 0) = true
              rw [hsum, show (y + y2) % p = 0 from Nat.eq_of_beq_eq_true hs]; simp]
            rfl
          rw [this]
          exact ih 0 0 true hp0 hp0 h'
        | false =>
          rw [hs, cond_false] at h'
          cases hyy : Nat.beq y y2 with
          | false => rw [hyy] at h'; cases h'
          | true =>
            rw [hyy, cond_true] at h'
            have e := Nat.eq_of_beq_eq_true hyy
            subst e
            unfold stS at h'
            cases hr0 : Nat.beq (Nat.mod (Nat.mul 2 y) p) 0 with
            | true => rw [hr0] at h'; cases h'
            | false =>
              rw [hr0, cond_false] at h'
              unfold nxS at h'
              have st := ad_step (b := b) (topN := (3 * x + 2 * a) * x + b) (kt := 0) (kb := 0) (N := 2 * y) hp ha hx hy hx2 (y2 := y) (by
                have h2 : (y + y) % p ≠ 0 := beq_no hs
                have h3 : ((((y + y) % p : Nat) : Int) == 0) = false := by
                  rw [beq_eq_false_iff_ne]
                  intro z
                  exact h2 (by omega)
                rw [hsum, h3, Bool.and_false]) (by
                unfold adT cP
                simp only [beq_self_eq_true, Bool.and_true, cond_true]
                push_cast; grind) (by
                unfold adB cP
                simp only [beq_self_eq_true, Bool.and_true, cond_true]
                push_cast; omega) rfl hr0
              dsimp only at st
              rw [st]
              exact ih _ _ false (Nat.mod_lt _ hp0) (Nat.mod_lt _ hp0) h'
      | false =>
        rw [hxx, cond_false] at h'
        unfold stS at h'
        have hne : ((x : Int) == x2) = false := by rw [ibeq]; exact hxx
        cases hr0 : Nat.beq (Nat.mod (Nat.sub (Nat.add x2 p) x) p) 0 with
        | true => rw [hr0] at h'; cases h'
        | false =>
          rw [hr0, cond_false] at h'
          unfold nxS at h'
          have st := ad_step (b := b) (topN := y2 + p - y) (kt := 1) (kb := 1) (N := x2 + p - x) hp ha hx hy hx2 (y2 := y2) (by rw [hne]; rfl) (by
            unfold adT cP
            dsimp only
            rw [hne]
            simp only [Bool.false_and, cond_false]
            omega) (by
            unfold adB cP
            dsimp only
            rw [hne]
            simp only [Bool.false_and, cond_false]
            omega) rfl hr0
          dsimp only at st
          rw [st]
          exact ih _ _ false (Nat.mod_lt _ hp0) (Nat.mod_lt _ hp0) h'
end Mine
end
section
open PySem
set_option Elab.async false
set_option maxRecDepth 100000
namespace Mine
def stN (p c b a : Nat) : Nat → Nat → Nat → List Nat → List Nat
  | u1, u2, u3, [] => [u1, u2, u3]
  | u1, u2, u3, x :: r => Nat.mod (Nat.add u1 (Nat.mul x c)) p :: stN p c b a (Nat.mod (Nat.add u2 (Nat.mul x b)) p) (Nat.mod (Nat.add u3 (Nat.mul x a)) p) (Nat.mod x p) r
def cI (n : Nat) : Int := n
theorem set_app (pre l : List Int) (j : Nat) (v : Int) : (pre ++ l).set (pre.length + j) v = pre ++ l.set j v := by
  rw [List.set_append_right _ _ (by omega), Nat.add_sub_cancel_left]
theorem getD_app (pre l : List Int) (j : Nat) : (pre ++ l).getD (pre.length + j) 0 = l.getD j 0 := by
  rw [List.getD_eq_getElem?_getD, List.getElem?_append_right (by omega), Nat.add_sub_cancel_left, List.getD_eq_getElem?_getD]
theorem mmI_app (x p : Int) (pre l : List Int) (y : Int) (j : Nat) : mmI x p pre.length (pre ++ l) (y, j) = pre ++ l.set j ((l.getD j 0 + x * y).fmod p) := by
  unfold mmI; dsimp only; rw [getD_app, set_app]
theorem st_eq {p : Nat} (hp0 : 1 < p) (c b a : Nat) : ∀ (r : List Nat) (pre : List Int) (u1 u2 u3 : Nat), u1 < p → u2 < p → u3 < p →
    ((r.map cI).zipIdx pre.length).foldl (mmO [(c : Int), b, a, 1] p) (pre ++ ((u1 : Int) :: (u2 : Int) :: (u3 : Int) :: List.replicate r.length 0)) = pre ++ (stN p c b a u1 u2 u3 r).map cI := by
  intro r
  induction r with
  | nil => intro pre u1 u2 u3 _ _ _; rfl
  | cons x r ih =>
    intro pre u1 u2 u3 h1 h2 h3
    rw [List.map_cons, List.zipIdx_cons, List.foldl_cons]
    have step : mmO [(c : Int), b, a, 1] p (pre ++ ((u1 : Int) :: (u2 : Int) :: (u3 : Int) :: List.replicate (x :: r).length 0)) (cI x, pre.length) =
        pre ++ ((((u1 + x * c) % p : Nat) : Int) :: (((u2 + x * b) % p : Nat) : Int) :: (((u3 + x * a) % p : Nat) : Int) :: ((x % p : Nat) : Int) :: List.replicate r.length 0) := by
      unfold mmO
      by_cases hx : x = 0
      · subst hx
        simp only [cI, Int.natCast_zero, bne_self_eq_false, cond_false, Nat.zero_mul, Nat.add_zero, Nat.mod_eq_of_lt h1, Nat.mod_eq_of_lt h2, Nat.mod_eq_of_lt h3, Nat.zero_mod, List.length_cons, List.replicate_succ]
      · have hb : (cI x != 0) = true := by unfold cI; simp; exact hx
        dsimp only
        rw [hb, cond_true]
        show mmI _ _ _ (mmI _ _ _ (mmI _ _ _ (mmI (cI x) p pre.length _ ((c : Int), 0)) ((b : Int), 1)) ((a : Int), 2)) ((1 : Int), 3) = _
        rw [mmI_app, mmI_app, mmI_app, mmI_app]
        unfold cI
        simp only [List.length_cons, List.replicate_succ, List.set_cons_zero, List.set_cons_succ, List.getD_cons_zero, List.getD_cons_succ]
        rw [show (u1 : Int) + x * c = ((u1 + x * c : Nat) : Int) by push_cast; rfl, show (u2 : Int) + x * b = ((u2 + x * b : Nat) : Int) by push_cast; rfl, show (u3 : Int) + x * a = ((u3 + x * a : Nat) : Int) by push_cast; rfl, show (0 : Int) + x * 1 = (x : Int) by omega, fmN, fmN, fmN, fmN]
    rw [step]
    have := ih (pre ++ [(((u1 + x * c) % p : Nat) : Int)]) ((u2 + x * b) % p) ((u3 + x * a) % p) (x % p) (Nat.mod_lt _ (by omega)) (Nat.mod_lt _ (by omega)) (Nat.mod_lt _ (by omega))
    rw [List.length_append, List.length_singleton, List.append_assoc, List.append_assoc] at this
    exact this
end Mine
end
section
open PySem
set_option Elab.async false
set_option maxRecDepth 100000
namespace Mine
theorem mtV_last {l : List Int} {x : Int} (h : l.getLast? = some x) (h0 : x ≠ 0) : mtV l = l := by
  unfold mtV
  have hl : 0 < l.length := by
    cases l with
    | nil => cases h
    | cons y l => simp
  have e : whV (mtT l) Nat.pred l.length l.length = l.length := by
    obtain ⟨n, hn⟩ : ∃ n, l.length = n + 1 := ⟨l.length - 1, by omega⟩
    have hm : mtT l l.length = false := by
      unfold mtT
      rw [List.getLast?_eq_getElem?] at h
      rw [List.getD_eq_getElem?_getD, h]
      simp [h0]
    rw [hn] at hm ⊢
    unfold whV
    rw [hm]
    rfl
  rw [e, List.take_length]
theorem stN_len (p c b a : Nat) : ∀ (r : List Nat) (u1 u2 u3 : Nat), (stN p c b a u1 u2 u3 r).length = r.length + 3
  | [], _, _, _ => rfl
  | x :: r, _, _, _ => by unfold stN; rw [List.length_cons, stN_len p c b a r, List.length_cons]
theorem stN_last (p c b a : Nat) : ∀ (r : List Nat) (u1 u2 u3 : Nat), (stN p c b a u1 u2 u3 r).getLast? = some ((r.getLast?.map (· % p)).getD u3)
  | [], _, _, _ => rfl
  | [x], _, _, _ => rfl
  | x :: y :: r, u1, u2, u3 => by
    have := stN_last p c b a (y :: r) (Nat.mod (Nat.add u2 (Nat.mul x b)) p) (Nat.mod (Nat.add u3 (Nat.mul x a)) p) (Nat.mod x p)
    have hn : stN p c b a (Nat.mod (Nat.add u2 (Nat.mul x b)) p) (Nat.mod (Nat.add u3 (Nat.mul x a)) p) (Nat.mod x p) (y :: r) ≠ [] := by
      intro z
      have := stN_len p c b a (y :: r) (Nat.mod (Nat.add u2 (Nat.mul x b)) p) (Nat.mod (Nat.add u3 (Nat.mul x a)) p) (Nat.mod x p)
      rw [z] at this
      simp at this
    unfold stN
    rw [List.getLast?_cons_of_ne_nil hn, this, List.getLast?_cons_cons]
    rw [List.getLast?_eq_some_getLast (List.cons_ne_nil y r)]
    rfl
theorem stN_mem {p : Nat} (hp : 0 < p) (c b a : Nat) : ∀ (r : List Nat) (u1 u2 u3 : Nat), u1 < p → u2 < p → u3 < p → ∀ x ∈ stN p c b a u1 u2 u3 r, x < p
  | [], u1, u2, u3, h1, h2, h3, x, hx => by
    simp only [stN, List.mem_cons, List.not_mem_nil, or_false] at hx
    omega
  | y :: r, u1, u2, u3, h1, h2, h3, x, hx => by
    unfold stN at hx
    rcases List.mem_cons.mp hx with rfl | hx
    · exact Nat.mod_lt _ hp
    · exact stN_mem hp c b a r _ _ _ (Nat.mod_lt _ hp) (Nat.mod_lt _ hp) (Nat.mod_lt _ hp) x hx
def pwN (p c b a : Nat) : Nat → List Nat → List Nat
  | 0, l => l
  | n + 1, l => pwN p c b a n (stN p c b a 0 0 0 l)
theorem okL_cI {p : Nat} (hp2 : p < 14) {l : List Nat} (h : ∀ x ∈ l, x < p) (hl : l.length ≤ 200) : okL (l.map cI) = true := by
  unfold okL
  simp only [Bool.and_eq_true, decide_eq_true_eq, List.all_eq_true, List.length_map, List.mem_map]
  refine ⟨hl, ?_⟩
  rintro x ⟨y, hy, rfl⟩
  have := h y hy
  unfold cI
  omega
theorem mm_eq {p : Nat} (hp : 1 < p) (c b a : Nat) {l : List Nat} (hl : l.getLast? = some 1) : mmV (l.map cI) [(c : Int), b, a, 1] p = (stN p c b a 0 0 0 l).map cI := by
  unfold mmV
  have h0 : 0 < l.length := by
    cases l with
    | nil => cases hl
    | cons y l => simp
  have hc : (((l.map cI).length : Int) == 0 || (([(c : Int), b, a, 1] : List Int).length : Int) == 0) = false := by
    rw [List.length_map]
    simp
    intro z; subst z; simp at h0
  rw [hc, cond_false]
  have e := st_eq hp c b a l [] 0 0 0 (by omega) (by omega) (by omega)
  have e2 : mmL (l.map cI) [(c : Int), b, a, 1] p = (stN p c b a 0 0 0 l).map cI := by
    unfold mmL
    rw [List.length_map]
    exact e
  rw [e2]
  refine mtV_last (x := 1) ?_ (by decide)
  rw [List.getLast?_map, stN_last, hl]
  show some (cI (1 % p)) = some 1
  rw [Nat.mod_eq_of_lt hp]; rfl
theorem mp_eq {p : Nat} (hp : 1 < p) (hp2 : p < 14) {c b a : Nat} (hc : c < p) (hb : b < p) (ha : a < p) : ∀ (k : Nat) (l : List Nat), (∀ x ∈ l, x < p) → l.getLast? = some 1 → l.length + 3 * k ≤ 200 →
    mpR p (List.replicate k [(c : Int), b, a, 1]) (l.map cI) = some ((pwN p c b a k l).map cI) ∧ (pwN p c b a k l).length = l.length + 3 * k
  | 0, l, _, _, _ => ⟨rfl, rfl⟩
  | k + 1, l, h1, h2, h3 => by
    rw [List.replicate_succ]
    unfold mpR pwN
    rw [okL_cI hp2 h1 (by omega)]
    have : okL [(c : Int), b, a, 1] = true := okL_cI (l := [c, b, a, 1]) hp2 (by
      intro x hx
      simp only [List.mem_cons, List.not_mem_nil, or_false] at hx
      omega) (by simp)
    rw [this, mm_eq hp c b a h2]
    have ih := mp_eq hp hp2 hc hb ha k (stN p c b a 0 0 0 l) (stN_mem (by omega) c b a l 0 0 0 (by omega) (by omega) (by omega)) (by
      rw [stN_last, h2]
      show some (1 % p) = some 1
      rw [Nat.mod_eq_of_lt hp]) (by rw [stN_len]; omega)
    refine ⟨ih.1, ?_⟩
    rw [ih.2, stN_len]; omega
theorem ra_eq {p : Nat} (hp : 0 < p) (l : List Nat) : raV (l.map cI) p = ((l.getD (p - 1) 0 : Nat) : Int) := by
  unfold raV
  rw [List.length_map, show ((p : Int) - 1).toNat = p - 1 by omega]
  split
  · rw [List.getD_eq_getElem?_getD, List.getElem?_map, List.getD_eq_getElem?_getD]
    cases l[p - 1]? <;> rfl
  · rename_i h
    have : ¬ (l.length : Int) ≥ p := by simpa using h
    rw [List.getD_eq_getElem?_getD, List.getElem?_eq_none (by omega)]; rfl
end Mine
end
section
open PySem
set_option Elab.async false
set_option maxRecDepth 100000
namespace Mine
/-! how many points -/
def nkS (p c b a t : Nat) (acc : Nat) (x : Nat) : Nat := (fun v => cond (Nat.beq v 0) (Nat.add acc 1) (cond (Nat.beq (Nat.mod (Nat.shiftRight t v) 2) 1) (Nat.add acc 2) acc)) (evN p c b a x)
def nkN (p c b a : Nat) : Nat := (List.range p).foldl (nkS p c b a (qrT p)) 0
theorem nk_fold (p c b a t : Nat) : ∀ (l : List Nat) (acc : Int) (n : Nat), l.foldl (lkS p c b a t) acc + (l.foldl (nkS p c b a t) n : Nat) = acc + n + l.length
  | [], acc, n => by simp
  | x :: l, acc, n => by
    rw [List.foldl_cons, List.foldl_cons, nk_fold p c b a t l, List.length_cons]
    unfold lkS nkS
    generalize evN p c b a x = v
    dsimp only
    cases Nat.beq v 0 with
    | true =>
      show acc + ((n + 1 : Nat) : Int) + _ = _
      omega
    | false =>
      cases Nat.beq (Nat.mod (Nat.shiftRight t v) 2) 1 with
      | true =>
        show (acc + -1) + ((n + 2 : Nat) : Int) + _ = _
        omega
      | false =>
        show (acc + 1) + (n : Int) + _ = _
        omega
theorem lk_nk {p : Nat} (hp : isP p) (c b a : Nat) : lkV [(c : Int), b, a, 1] p = (p : Int) - nkN p c b a := by
  rw [lkN_eq hp]
  have := nk_fold p c b a (qrT p) (List.range p) 0 0
  rw [List.length_range] at this
  unfold lkN nkN
  omega
/-! the number that is no square, and the curve by it -/
def dN (p : Nat) : Nat := match p with
  | 7 => 3
  | _ => 2
theorem d_eq {p : Nat} (hp : isP p) : (dL p)[0]? = some (dN p : Int) := by rcases hp with rfl | rfl | rfl | rfl | rfl <;> decide +kernel
theorem d_lt (p : Nat) : dN p < 100 := by unfold dN; split <;> decide
theorem tw_eq (p c b a d : Nat) : twL (p : Int) c b a d = [((c * d ^ 3 % p : Nat) : Int), ((b * d * d % p : Nat) : Int), ((a * d % p : Nat) : Int), 1] := by
  unfold twL
  rw [show (c : Int) * (d : Int) ^ (3 : Nat) = ((c * d ^ 3 : Nat) : Int) by push_cast; rfl, show (b : Int) * d * d = ((b * d * d : Nat) : Int) by push_cast; rfl, show (a : Int) * d = ((a * d : Nat) : Int) by push_cast; rfl, fmN, fmN, fmN]
/-! the divisor in common -/
def gcB (p c b a : Int) : Option Bool :=
  match mgR p 8 ([c, b, a, 1], mtV (mderV [c, b, a, 1] p)) with
  | none => none
  | some r => bif okL r && Nat.blt 0 r.length then (match invV (lastV r) p with
    | none => none
    | some ti => some (decide (msV r ti p = [1]))) else none
theorem gcB_ok {p c b a : Int} {g : Bool} (h : gcB p c b a = some g) : ∃ r ti, mgR p 8 ([c, b, a, 1], mtV (mderV [c, b, a, 1] p)) = some r ∧ okL r = true ∧ 0 < r.length ∧ invV (lastV r) p = some ti ∧ decide (msV r ti p = [1]) = g := by
  unfold gcB at h
  cases e : mgR p 8 ([c, b, a, 1], mtV (mderV [c, b, a, 1] p)) with
  | none => rw [e] at h; cases h
  | some r =>
    rw [e] at h
    dsimp only at h
    cases z : okL r && Nat.blt 0 r.length with
    | false => rw [z] at h; cases h
    | true =>
      rw [z, cond_true] at h
      cases y : invV (lastV r) p with
      | none => rw [y] at h; cases h
      | some ti =>
        rw [y] at h
        simp only [Bool.and_eq_true] at z
        exact ⟨r, ti, rfl, z.1, by have := z.2; rw [Nat.blt_eq] at this; exact this, y, by injection h⟩
/-! the checks over Nat -/
def ck9 (c b a N : Nat) : Bool :=
  ((List.range 9).all fun i => (bnS [(c : Int), b, a, 1] i).isSome) && decide ((List.range 9).foldl (bnF [(c : Int), b, a, 1]) 0 = 15 - ((3 : Int) - N) * ((3 : Int) - N))
def ckG (p c b a N : Nat) : Bool :=
  Nat.ble (Nat.mul (Nat.add (Nat.sub p N) (Nat.sub N p)) (Nat.add (Nat.sub p N) (Nat.sub N p))) (Nat.mul 4 p) && (Nat.beq (ptsN p c b a).length N &&
  ((ptsN p c b a).all fun q => cbN p b a (ivT p) q.1 q.2 (N + 1) 0 0 true))
def ckS (p N : Nat) : Bool := Nat.beq (Nat.add N 1) p || (Nat.beq N p || Nat.beq N (Nat.add p 1))
def ck (p c b a N : Nat) : Bool :=
  Nat.ble N 100 && (Nat.beq (Nat.mod (Nat.add N ((pwN p c b a (p / 2) [1]).getD (p - 1) 0)) p) 0 && (
  Nat.beq (Nat.add N (nkN p (c * dN p ^ 3 % p) (b * dN p * dN p % p) (a * dN p % p))) (Nat.mul 2 p) && (
  (!(Nat.beq a 0 && (Nat.beq b 0 && Nat.beq (p % 3) 2 || Nat.beq c 0 && Nat.beq (p % 4) 3)) || Nat.beq N p) && (
  match gcB p c b a with
  | none => false
  | some true => ckG p c b a N && (Nat.blt 3 p || ck9 c b a N)
  | some false => ckS p N))))
theorem ck_law {p c b a : Nat} (hp : isP p) (hc : c < p) (hb : b < p) (ha : a < 3) (h : ck p c b a (nkN p c b a) = true) : LawOk (p : Int) c b a := by
  have hp3 : 3 ≤ p ∧ p < 14 := by rcases hp with rfl | rfl | rfl | rfl | rfl <;> decide
  have hodd : p % 2 = 1 := by rcases hp with rfl | rfl | rfl | rfl | rfl <;> decide
  have hlk := lk_nk hp c b a
  have hlt := lk_nk hp (c * dN p ^ 3 % p) (b * dN p * dN p % p) (a * dN p % p)
  generalize hN : nkN p c b a = N at *
  unfold ck at h
  simp only [Bool.and_eq_true] at h
  obtain ⟨h1, h2, h3, h4, h5⟩ := h
  have h1 := Nat.le_of_ble_eq_true h1
  have h2 := Nat.eq_of_beq_eq_true h2
  have h3 := Nat.eq_of_beq_eq_true h3
  obtain ⟨m1, m2⟩ := mp_eq (p := p) (by omega) hp3.2 hc hb (show a < p by omega) (p / 2) [1] (by simp; omega) rfl (by simp; omega)
  have hk : (((p : Int) - 1).fdiv 2).toNat = p / 2 := by
    rw [Int.fdiv_eq_ediv_of_nonneg _ (by decide)]; omega
  have hlift : ∀ g, gcB p c b a = some g → _ := fun g => gcB_ok
  obtain ⟨g, hg⟩ : ∃ g, gcB p c b a = some g := by
    cases e : gcB (p : Int) c b a with
    | none => rw [e] at h5; cases h5
    | some g => exact ⟨g, rfl⟩
  rw [hg] at h5
  obtain ⟨r, ti, g1, g2, g3, g4, g5⟩ := gcB_ok hg
  refine ⟨(p : Int) - N, dN p, ti, (pwN p c b a (p / 2) [1]).map cI, r, 8, hlk, ?_, ?_, ?_, d_eq hp, by omega, by have := d_lt p; omega, ?_, ?_, g1, g2, g3, g4, by omega, ?_⟩
  · rw [hk]; exact m1
  · rw [List.length_map, m2]; simp; omega
  · rw [ra_eq (by omega)]
    generalize (pwN p c b a (p / 2) [1]).getD (p - 1) 0 = R at *
    have h2' : (N + R) % p = 0 := h2
    rw [Int.fmod_eq_emod_of_nonneg _ (by omega)]
    have := Nat.div_add_mod (N + R) p
    rw [h2'] at this
    have e : (p : Int) - N - R = (p : Int) * (1 - ((N + R) / p : Nat)) := by
      rw [Int.mul_sub]
      have : ((p * ((N + R) / p) : Nat) : Int) = N + R := by omega
      push_cast at this ⊢
      omega
    rw [e]
    exact Int.mul_emod_right _ _
  · rw [tw_eq, hlt]
    have h3' : N + nkN p (c * dN p ^ 3 % p) (b * dN p * dN p % p) (a * dN p % p) = 2 * p := h3
    omega
  · cases hz : ((a : Int) == 0 && (((b : Int) == 0 && (p : Int).fmod 3 == 2) || ((c : Int) == 0 && (p : Int).fmod 4 == 3))) with
    | false => rfl
    | true =>
      have : (p : Int) - N = 0 := by
        rw [show (p : Int).fmod 3 = ((p % 3 : Nat) : Int) from fmN p 3, show (p : Int).fmod 4 = ((p % 4 : Nat) : Int) from fmN p 4] at hz
        have e1 : ∀ m k : Nat, ((m : Int) == (k : Nat)) = Nat.beq m k := ibeq
        have a1 := e1 a 0
        have a2 := e1 b 0
        have a3 := e1 c 0
        have a4 := e1 (p % 3) 2
        have a5 := e1 (p % 4) 3
        rw [show ((a : Int) == 0) = Nat.beq a 0 from a1, show ((b : Int) == 0) = Nat.beq b 0 from a2, show ((c : Int) == 0) = Nat.beq c 0 from a3, show (((p % 3 : Nat) : Int) == 2) = Nat.beq (p % 3) 2 from a4, show (((p % 4 : Nat) : Int) == 3) = Nat.beq (p % 4) 3 from a5] at hz
        rw [hz, Bool.not_true, Bool.false_or] at h4
        have := Nat.eq_of_beq_eq_true h4
        omega
      rw [this]; rfl
  · cases g with
    | true =>
      rw [if_pos (by simpa using g5)]
      simp only [Bool.and_eq_true, Bool.or_eq_true, ckG] at h5
      obtain ⟨⟨k1, k2, k3⟩, k4⟩ := h5
      have k2 := Nat.eq_of_beq_eq_true k2
      have hl : ((ptsV [(c : Int), b, a, 1] p).length) = N := by rw [pts_eq hp, List.length_map]; exact k2
      refine ⟨?_, ?_, ?_, ?_⟩
      · have k1 := Nat.le_of_ble_eq_true k1
        have k1' : (p - N + (N - p)) * (p - N + (N - p)) ≤ 4 * p := k1
        rcases Nat.le_total N p with q | q
        · rw [show N - p = 0 by omega, Nat.add_zero] at k1'
          rw [show (p : Int) - N = ((p - N : Nat) : Int) by omega]
          exact_mod_cast k1'
        · rw [show p - N = 0 by omega, Nat.zero_add] at k1'
          rw [show (p : Int) - N = -((N - p : Nat) : Int) by omega, Int.neg_mul_neg]
          exact_mod_cast k1'
      · rw [hl]; omega
      · intro pt hpt
        rw [pts_eq hp] at hpt
        obtain ⟨q, hq, rfl⟩ := List.mem_map.mp hpt
        rw [List.all_eq_true] at k3
        have := k3 q hq
        rw [show ((p : Int) - (p - N) + 1).toNat = N + 1 by omega]
        have hq2 : q.1 < p ∧ q.2 < p := by
          unfold ptsN rowN at hq
          simp only [List.mem_flatMap, List.mem_map, List.mem_filter, List.mem_range] at hq
          obtain ⟨x, hx, y, ⟨hy, _⟩, rfl⟩ := hq
          exact ⟨hx, hy⟩
        exact cb_eq hp (by omega) hq2.1 hq2.2 (N + 1) 0 0 true (by omega) (by omega) this
      · rcases k4 with k4 | k4
        · left
          rw [Nat.blt_eq] at k4
          omega
        · rcases Nat.lt_or_ge 3 p with q | q
          · left; omega
          · right
            have : p = 3 := by omega
            subst this
            unfold ck9 at k4
            simp only [Bool.and_eq_true, List.all_eq_true, List.mem_range, decide_eq_true_eq] at k4
            exact ⟨by omega, k4.1, k4.2⟩
    | false =>
      rw [if_neg (by simpa using g5)]
      unfold ckS at h5
      simp only [Bool.or_eq_true] at h5
      rcases h5 with q | q | q
      · have := Nat.eq_of_beq_eq_true q
        have : N + 1 = p := this
        rw [show (p : Int) - N = 1 by omega]; rfl
      · have := Nat.eq_of_beq_eq_true q
        rw [show (p : Int) - N = 0 by omega]; rfl
      · have := Nat.eq_of_beq_eq_true q
        have : N = p + 1 := this
        rw [show (p : Int) - N = -1 by omega]; rfl
/-- a row of curves -/
def rw_ok (p b a : Nat) : Bool := (List.range p).all fun c => ck p c b a (nkN p c b a)
theorem rw_law {p b a : Nat} (hp : isP p) (hb : b < p) (ha : a < 3) (h : rw_ok p b a = true) : ∀ c : Nat, c < p → LawOk (p : Int) c b a := by
  intro c hc
  unfold rw_ok at h
  rw [List.all_eq_true] at h
  exact ck_law hp hc hb ha (h c (by simpa using hc))
end Mine
end
section
open PySem
set_option Elab.async false
set_option maxRecDepth 100000
namespace Mine
/-! trimming over Nat -/
def tcN (x : Nat) (r : List Nat) : List Nat := match r with
  | [] => cond (Nat.beq x 0) [] [x]
  | y :: r => x :: y :: r
def mtN : List Nat → List Nat
  | [] => []
  | x :: l => tcN x (mtN l)
theorem whV_le {t t' : Nat → Bool} : ∀ (n k m : Nat), k ≤ m → (∀ j, j ≤ m → t j = t' j) → whV t Nat.pred n k = whV t' Nat.pred n k
  | 0, _, _, _, _ => rfl
  | n + 1, k, m, h, e => by
    unfold whV
    rw [e k h, whV_le n (Nat.pred k) m (by rw [Nat.pred_eq_sub_one]; omega) e]
theorem mtV_snoc0 (l : List Int) : mtV (l ++ [0]) = mtV l := by
  unfold mtV
  have h1 : whV (mtT (l ++ [0])) Nat.pred (l ++ [0]).length (l ++ [0]).length = whV (mtT l) Nat.pred l.length l.length := by
    rw [List.length_append, List.length_singleton]
    have : mtT (l ++ [0]) (l.length + 1) = true := by
      unfold mtT
      rw [List.getD_eq_getElem?_getD, List.getElem?_append_right (by omega)]
      simp
    rw [whV, if_pos this]
    refine whV_le l.length l.length l.length (Nat.le_refl _) ?_
    intro j hj
    unfold mtT
    cases j with
    | zero => rfl
    | succ j =>
      rw [List.getD_eq_getElem?_getD, List.getD_eq_getElem?_getD, List.getElem?_append_left (by omega)]
  rw [h1]
  have h2 : ∀ n k, k ≤ l.length → whV (mtT l) Nat.pred n k ≤ l.length := by
    intro n
    induction n with
    | zero => intro k h; exact h
    | succ n ih =>
      intro k h
      unfold whV
      split
      · exact ih _ (by rw [Nat.pred_eq_sub_one]; omega)
      · exact h
  rw [List.take_append_of_le_length (h2 _ _ (Nat.le_refl _))]
theorem mtN_snoc0 : ∀ l : List Nat, mtN (l ++ [0]) = mtN l
  | [] => rfl
  | x :: l => by rw [List.cons_append, mtN, mtN, mtN_snoc0 l]
theorem mtN_snoc {x : Nat} (hx : x ≠ 0) : ∀ l : List Nat, mtN (l ++ [x]) = l ++ [x]
  | [] => by
    cases x with
    | zero => exact absurd rfl hx
    | succ n => rfl
  | y :: l => by
    rw [List.cons_append, mtN, mtN_snoc hx l]
    cases l <;> rfl
theorem mt_eq (l : List Nat) : mtV (l.map cI) = (mtN l).map cI := by
  suffices h : ∀ n, ∀ l : List Nat, l.length = n → mtV (l.map cI) = (mtN l).map cI from h _ l rfl
  intro n
  induction n with
  | zero =>
    intro l h
    have : l = [] := List.length_eq_zero_iff.mp h
    subst this; rfl
  | succ n ih =>
    intro l h
    have hne : l ≠ [] := by rintro rfl; cases h
    obtain ⟨l', x, rfl⟩ : ∃ l' x, l = l' ++ [x] := ⟨l.dropLast, l.getLast hne, (List.dropLast_concat_getLast hne).symm⟩
    rw [List.length_append, List.length_singleton] at h
    by_cases hx : x = 0
    · subst hx
      rw [List.map_append]
      show mtV (l'.map cI ++ [0]) = _
      rw [mtV_snoc0, mtN_snoc0]
      exact ih l' (by omega)
    · rw [mtN_snoc hx]
      refine mtV_last (x := (x : Int)) ?_ (by omega)
      rw [List.map_append, List.map_singleton, List.getLast?_append]
      rfl
theorem mtN_mem : ∀ (l : List Nat) (x : Nat), x ∈ mtN l → x ∈ l
  | [], x, h => h
  | y :: l, x, h => by
    rw [mtN] at h
    have ih := mtN_mem l
    generalize hr : mtN l = r at h ih
    cases r with
    | nil =>
      unfold tcN at h
      cases hb : Nat.beq y 0 with
      | true => rw [hb] at h; cases h
      | false =>
        rw [hb] at h
        rcases List.mem_singleton.mp h with rfl
        exact List.mem_cons_self ..
    | cons z r =>
      rcases List.mem_cons.mp h with rfl | h
      · exact List.mem_cons_self ..
      · exact List.mem_cons_of_mem _ (ih x h)
theorem mtN_len : ∀ l : List Nat, (mtN l).length ≤ l.length
  | [] => Nat.le_refl _
  | y :: l => by
    rw [mtN]
    have ih := mtN_len l
    generalize mtN l = r at ih
    unfold tcN
    cases r with
    | nil => cases Nat.beq y 0 <;> simp
    | cons z r => simp at ih ⊢; omega
/-! the rest of a division over Nat -/
def miN (num p i : Nat) (acc : List Nat) (z : Nat × Nat) : List Nat := acc.set (Nat.add i z.2) (Nat.mod (Nat.add (acc.getD (Nat.add i z.2) 0) (Nat.mul num (Nat.sub p z.1))) p)
def moN (b : List Nat) (t p lb : Nat) (rest : List Nat) (i : Nat) : List Nat :=
  (fun num => cond (Nat.beq num 0) rest (b.zipIdx.foldl (miN num p i) rest)) (Nat.mod (Nat.mul (rest.getD (Nat.sub (Nat.add i lb) 1) 0) t) p)
def mrN (a b : List Nat) (t p : Nat) : List Nat := mtN (((List.range (a.length + 1 - b.length)).reverse.foldl (moN b t p b.length) a).take (b.length - 1))
theorem getD_map (l : List Nat) (j : Nat) : (l.map cI).getD j 0 = ((l.getD j 0 : Nat) : Int) := by
  rw [List.getD_eq_getElem?_getD, List.getElem?_map, List.getD_eq_getElem?_getD]
  cases l[j]? <;> rfl
theorem mi_eq {p : Nat} (hp : 0 < p) (num i : Nat) (acc : List Nat) {y : Nat} (hy : y ≤ p) (j : Nat) : mdI (num : Int) p i (acc.map cI) (cI y, j) = (miN num p i acc (y, j)).map cI := by
  unfold mdI miN
  dsimp only
  rw [getD_map, List.map_set]
  congr 1
  refine fmod_to hp num ?_
  show _ = ((acc.getD (i + j) 0 + num * (p - y) : Nat) : Int)
  unfold cI
  rw [Int.natCast_add, Int.natCast_mul, Int.natCast_sub hy]
  grind
theorem mi_fold {p : Nat} (hp : 0 < p) (num i : Nat) : ∀ (l : List (Nat × Nat)) (acc : List Nat), (∀ z ∈ l, z.1 ≤ p) → (l.map fun z => (cI z.1, z.2)).foldl (mdI (num : Int) p i) (acc.map cI) = (l.foldl (miN num p i) acc).map cI
  | [], acc, _ => rfl
  | z :: l, acc, h => by
    rw [List.map_cons, List.foldl_cons, List.foldl_cons, mi_eq hp num i acc (h z (List.mem_cons_self ..)) z.2]
    exact mi_fold hp num i l _ fun z hz => h z (List.mem_cons_of_mem _ hz)
theorem zip_map (b : List Nat) : (b.map cI).zipIdx = b.zipIdx.map fun z => (cI z.1, z.2) := by
  rw [List.zipIdx_map]; rfl
theorem zip_le {b : List Nat} {p : Nat} (hb : ∀ x ∈ b, x < p) : ∀ z ∈ b.zipIdx, z.1 ≤ p := by
  rintro ⟨x, i⟩ hz
  rw [List.mem_zipIdx_iff_getElem?] at hz
  exact Nat.le_of_lt (hb x (List.mem_of_getElem? hz))
theorem mo_eq {p : Nat} (hp : 0 < p) {b : List Nat} (hb : ∀ x ∈ b, x < p) (t : Nat) (rest : List Nat) (q : List Int) (i : Nat) : (mdO (b.map cI) (t : Int) p (rest.map cI, q) i).1 = (moN b t p b.length rest i).map cI := by
  unfold mdO moN mdN
  dsimp only
  rw [List.length_map, getD_map]
  rw [show (((rest.getD (i + b.length - 1) 0 : Nat) : Int) * (t : Int)).fmod p = ((rest.getD (i + b.length - 1) 0 * t % p : Nat) : Int) by
    rw [show ((rest.getD (i + b.length - 1) 0 : Nat) : Int) * (t : Int) = ((rest.getD (i + b.length - 1) 0 * t : Nat) : Int) by push_cast; rfl, fmN]]
  show _ = (cond (Nat.beq (rest.getD (i + b.length - 1) 0 * t % p) 0) rest (b.zipIdx.foldl (miN (rest.getD (i + b.length - 1) 0 * t % p) p i) rest)).map cI
  generalize rest.getD (i + b.length - 1) 0 * t % p = N
  have e : ((N : Int) != 0) = !(Nat.beq N 0) := by rw [← ibeq]; rfl
  rw [e]
  cases Nat.beq N 0 with
  | true => rfl
  | false =>
    rw [Bool.not_false, cond_true, cond_false, zip_map]
    exact mi_fold hp N i _ _ (zip_le hb)
theorem mo_fold {p : Nat} (hp : 0 < p) {b : List Nat} (hb : ∀ x ∈ b, x < p) (t : Nat) : ∀ (l : List Nat) (rest : List Nat) (q : List Int), (l.foldl (mdO (b.map cI) (t : Int) p) (rest.map cI, q)).1 = (l.foldl (moN b t p b.length) rest).map cI
  | [], _, _ => rfl
  | i :: l, rest, q => by
    rw [List.foldl_cons, List.foldl_cons, ← mo_fold hp hb t l _ (mdO (b.map cI) (t : Int) p (rest.map cI, q) i).2, ← mo_eq hp hb t rest q i]
theorem mr_eq {p : Nat} (hp : 0 < p) (a : List Nat) {b : List Nat} (hb : ∀ x ∈ b, x < p) (t : Nat) : mrV (a.map cI) (b.map cI) (t : Int) p = (mrN a b t p).map cI := by
  unfold mrV mrN mdS
  rw [List.length_map, List.length_map, mo_fold hp hb t, ← List.map_take, mt_eq]
theorem miN_mem {p : Nat} (hp : 0 < p) (num i : Nat) : ∀ (l : List (Nat × Nat)) (acc : List Nat), (∀ x ∈ acc, x < p) → ∀ x ∈ l.foldl (miN num p i) acc, x < p
  | [], acc, h => h
  | z :: l, acc, h => by
    rw [List.foldl_cons]
    refine miN_mem hp num i l _ ?_
    intro x hx
    rcases List.mem_or_eq_of_mem_set hx with q | rfl
    · exact h x q
    · exact Nat.mod_lt _ hp
theorem moN_mem {p : Nat} (hp : 0 < p) (b : List Nat) (t lb : Nat) : ∀ (l acc : List Nat), (∀ x ∈ acc, x < p) → ∀ x ∈ l.foldl (moN b t p lb) acc, x < p
  | [], acc, h => h
  | i :: l, acc, h => by
    rw [List.foldl_cons]
    refine moN_mem hp b t lb l _ ?_
    unfold moN
    dsimp only
    cases Nat.beq (Nat.mod (Nat.mul (acc.getD (Nat.sub (Nat.add i lb) 1) 0) t) p) 0 with
    | true => exact h
    | false => exact miN_mem hp _ i _ _ h
theorem mrN_mem {p : Nat} (hp : 0 < p) {a : List Nat} (ha : ∀ x ∈ a, x < p) (b : List Nat) (t : Nat) : ∀ x ∈ mrN a b t p, x < p := by
  intro x hx
  unfold mrN at hx
  exact moN_mem hp b t _ _ _ ha x (List.mem_of_mem_take (mtN_mem _ _ hx))
theorem mrN_len {a b : List Nat} {t p : Nat} : (mrN a b t p).length ≤ b.length - 1 := by
  unfold mrN
  refine Nat.le_trans (mtN_len _) ?_
  rw [List.length_take]; omega
/-! the divisor in common over Nat -/
def laN (b : List Nat) : Nat := b.getD (b.length - 1) 0
def mgN (p it : Nat) : Nat → List Nat → List Nat → List Nat
  | 0, _, _ => []
  | n + 1, a, b => match b with
    | [] => a
    | x :: r => (fun l => cond (Nat.beq l 0) [] (mgN p it n (x :: r) (mrN a (x :: r) (ivN it l) p))) (laN (x :: r))
theorem inv_last {p : Nat} (hp : isP p) {b : List Nat} (hb : ∀ x ∈ b, x < p) (h0 : 0 < b.length) (hl : Nat.beq (laN b) 0 = false) : invV (lastV (b.map cI)) p = some ((ivN (ivT p) (laN b) : Nat) : Int) := by
  unfold lastV
  rw [List.length_map, getD_map]
  have hlt : laN b < p := by
    refine hb _ ?_
    unfold laN
    rw [List.getD_eq_getElem?_getD, List.getElem?_eq_getElem (by omega)]
    exact List.getElem_mem _
  have := inv_eq hp (laN b) hlt
  rw [if_neg (beq_no hl)] at this
  exact this
theorem mg_eq {p : Nat} (hp : isP p) (hp2 : p < 14) : ∀ (n : Nat) (a b : List Nat), (∀ x ∈ a, x < p) → (∀ x ∈ b, x < p) → a.length ≤ 100 → b.length ≤ 100 → mgN p (ivT p) n a b ≠ [] →
    mgR p n (a.map cI, b.map cI) = some ((mgN p (ivT p) n a b).map cI) ∧ (∀ x ∈ mgN p (ivT p) n a b, x < p) ∧ (mgN p (ivT p) n a b).length ≤ 100
  | 0, _, _, _, _, _, _, h => absurd rfl h
  | n + 1, a, [], ha, _, la, _, _ => ⟨rfl, ha, la⟩
  | n + 1, a, x :: r, ha, hb, la, lb, h => by
    have hp0 : 0 < p := by rcases hp with rfl | rfl | rfl | rfl | rfl <;> decide
    have h' : cond (Nat.beq (laN (x :: r)) 0) [] (mgN p (ivT p) n (x :: r) (mrN a (x :: r) (ivN (ivT p) (laN (x :: r))) p)) ≠ [] := h
    have e' : mgN p (ivT p) (n + 1) a (x :: r) = cond (Nat.beq (laN (x :: r)) 0) [] (mgN p (ivT p) n (x :: r) (mrN a (x :: r) (ivN (ivT p) (laN (x :: r))) p)) := rfl
    rw [e']
    clear e' h
    cases hl : Nat.beq (laN (x :: r)) 0 with
    | true => rw [hl] at h'; exact absurd rfl h'
    | false =>
      rw [hl, cond_false] at h'
      rw [cond_false]
      have hi := inv_last hp hb (by simp) hl
      have ih := mg_eq hp hp2 n (x :: r) (mrN a (x :: r) (ivN (ivT p) (laN (x :: r))) p) hb (mrN_mem hp0 ha _ _) lb (by have := mrN_len (a := a) (b := x :: r) (t := ivN (ivT p) (laN (x :: r))) (p := p); omega) h'
      refine ⟨?_, ih.2⟩
      rw [← ih.1]
      have ht : mgT (a.map cI, (x :: r).map cI) = true := by unfold mgT; simp
      rw [mgR, ht, cond_true]
      rw [show okL (a.map cI, (x :: r).map cI).1 = true from okL_cI hp2 ha (by omega), show okL (a.map cI, (x :: r).map cI).2 = true from okL_cI hp2 hb (by omega)]
      dsimp only
      rw [hi]
      show mgR p n (mgF p (a.map cI, (x :: r).map cI)) = _
      unfold mgF
      dsimp only
      rw [hi]
      dsimp only [Option.getD]
      rw [mr_eq hp0 a hb]
end Mine
end
section
open PySem
set_option Elab.async false
set_option maxRecDepth 100000
namespace Mine
/-! the slope -/
def drN (p b a : Nat) : List Nat := mtN (mtN [Nat.mod b p, Nat.mod (Nat.mul 2 a) p, Nat.mod 3 p])
theorem dr_eq (p c b a : Nat) : mtV (mderV [(c : Int), b, a, 1] p) = (drN p b a).map cI := by
  unfold mderV drN
  have : mderL [(c : Int), b, a, 1] p = [Nat.mod b p, Nat.mod (Nat.mul 2 a) p, Nat.mod 3 p].map cI := by
    show [((1 : Nat) * (b : Int)).fmod p, ((2 : Nat) * (a : Int)).fmod p, ((3 : Nat) * (1 : Int)).fmod p] = _
    rw [show ((1 : Nat) : Int) * (b : Int) = ((b : Nat) : Int) by omega, show ((2 : Nat) : Int) * (a : Int) = ((2 * a : Nat) : Int) by push_cast; rfl, show ((3 : Nat) : Int) * (1 : Int) = ((3 : Nat) : Int) by omega, fmN, fmN, fmN]
    rfl
  rw [this, mt_eq, mt_eq]
theorem drN_mem {p : Nat} (hp : 0 < p) (b a : Nat) : ∀ x ∈ drN p b a, x < p := by
  intro x hx
  have := mtN_mem _ _ (mtN_mem _ _ hx)
  simp only [List.mem_cons, List.not_mem_nil, or_false] at this
  rcases this with rfl | rfl | rfl <;> exact Nat.mod_lt _ hp
theorem drN_len (p b a : Nat) : (drN p b a).length ≤ 3 := Nat.le_trans (mtN_len _) (mtN_len _)
/-- the divisor in common: 1 if it is a number, 2 if it is more, 0 where the run does not end -/
def gcN (p it c b a : Nat) : Nat := (fun r => cond (Nat.beq (laN r) 0) 0 (cond (Nat.beq r.length 1) 1 2)) (mgN p it 8 [c, b, a, 1] (drN p b a))
theorem gc_eq {p c b a : Nat} (hp : isP p) (hp2 : p < 14) (hc : c < p) (hb : b < p) (ha : a < p) (h1 : 1 < p) {k : Nat} (h : gcN p (ivT p) c b a = k) (h0 : k ≠ 0) :
    gcB p c b a = some (Nat.beq k 1) := by
  subst h
  unfold gcN at h0 ⊢
  have hf : ∀ x ∈ [c, b, a, 1], x < p := by
    intro x hx
    simp only [List.mem_cons, List.not_mem_nil, or_false] at hx
    rcases hx with rfl | rfl | rfl | rfl <;> assumption
  have M := mg_eq hp hp2 8 [c, b, a, 1] (drN p b a) hf (drN_mem (by omega) b a) (by simp) (by have := drN_len p b a; omega)
  rw [← dr_eq p c b a] at M
  generalize mgN p (ivT p) 8 [c, b, a, 1] (drN p b a) = r at *
  dsimp only at *
  cases hl : Nat.beq (laN r) 0 with
  | true => rw [hl] at h0; exact absurd rfl h0
  | false =>
    rw [cond_false]
    have hr : r ≠ [] := by rintro rfl; cases hl
    obtain ⟨m1, m2, m3⟩ := M hr
    have hlen : 0 < r.length := List.length_pos_iff.mpr hr
    unfold gcB
    rw [show ([c, b, a, 1] : List Nat).map cI = [(c : Int), b, a, 1] from rfl] at m1
    rw [m1]
    dsimp only
    rw [okL_cI hp2 m2 (by omega), List.length_map, Bool.true_and]
    rw [show Nat.blt 0 r.length = true by rw [Nat.blt_eq]; exact hlen, cond_true]
    rw [inv_last hp m2 hlen hl]
    dsimp only
    congr 1
    have hlt : laN r < p := by
      refine m2 _ ?_
      unfold laN
      rw [List.getD_eq_getElem?_getD, List.getElem?_eq_getElem (by omega)]
      exact List.getElem_mem _
    have hone : laN r * ivN (ivT p) (laN r) % p = 1 := by
      have : ∀ q, isP q → ∀ v, v < q → v ≠ 0 → v * ivN (ivT q) v % q = 1 := by
        rintro q (rfl | rfl | rfl | rfl | rfl) <;> decide +kernel
      exact this p hp _ hlt (beq_no hl)
    obtain ⟨r', x, rfl⟩ : ∃ r' x, r = r' ++ [x] := ⟨r.dropLast, r.getLast hr, (List.dropLast_concat_getLast hr).symm⟩
    have hx : laN (r' ++ [x]) = x := by
      unfold laN
      rw [List.getD_eq_getElem?_getD, List.length_append, List.length_singleton, List.getElem?_append_right (by omega)]
      simp
    rw [hx] at hone ⊢
    generalize ivN (ivT p) x = i at *
    have hms : msV ((r' ++ [x]).map cI) (i : Int) p = (r'.map fun y => (((y : Nat) : Int) * (i : Int)).fmod p) ++ [1] := by
      unfold msV msL
      have e : ((r' ++ [x]).map cI).map (fun y => (y * (i : Int)).fmod p) = (r'.map fun y => (((y : Nat) : Int) * (i : Int)).fmod p) ++ [1] := by
        rw [List.map_append, List.map_append, List.map_map, List.map_singleton, List.map_singleton]
        congr 1
        show [((x : Int) * (i : Int)).fmod p] = [1]
        rw [show (x : Int) * (i : Int) = ((x * i : Nat) : Int) by push_cast; rfl, fmN, hone]; rfl
      rw [e]
      refine mtV_last (x := 1) ?_ (by decide)
      rw [List.getLast?_append]; rfl
    rw [hms]
    cases r' with
    | nil => rfl
    | cons y r' =>
      have : Nat.beq (y :: r' ++ [x]).length 1 = false := by
        rw [List.length_append, List.length_cons, List.length_singleton]; rfl
      rw [this, cond_false]
      simp
      rfl
/-! the points from a table of roots -/
def rtT (p : Nat) : Nat := match p with
  | 3 => 0x10
  | 5 => 0x20010
  | 7 => 131856
  | 11 => 206162776080
  | 13 => 1414178111897616
  | _ => 0
def roM (p rt x v : Nat) : List (Nat × Nat) := cond (Nat.beq v 0) [(x, 0)] ((fun r => cond (Nat.beq r 0) [] [(x, r), (x, Nat.sub p r)]) (Nat.mod (Nat.shiftRight rt (Nat.mul 4 v)) 16))
theorem ro_eq {p : Nat} (hp : isP p) (x : Nat) : ∀ v, v < p → ((List.range p).filter fun y => Nat.beq (Nat.mod (Nat.mul y y) p) v).map (fun y => (x, y)) = roM p (rtT p) x v := by
  have : ∀ q, isP q → ∀ v, v < q → ((List.range q).filter fun y => Nat.beq (Nat.mod (Nat.mul y y) q) v) = cond (Nat.beq v 0) [0] (cond (Nat.beq (Nat.mod (Nat.shiftRight (rtT q) (Nat.mul 4 v)) 16) 0) [] [Nat.mod (Nat.shiftRight (rtT q) (Nat.mul 4 v)) 16, Nat.sub q (Nat.mod (Nat.shiftRight (rtT q) (Nat.mul 4 v)) 16)]) := by
    rintro q (rfl | rfl | rfl | rfl | rfl) <;> decide +kernel
  intro v hv
  rw [this p hp v hv]
  unfold roM
  dsimp only
  cases Nat.beq v 0 with
  | true => rfl
  | false =>
    rw [cond_false, cond_false]
    cases Nat.beq (Nat.mod (Nat.shiftRight (rtT p) (Nat.mul 4 v)) 16) 0 <;> rfl
def ptM' (p rt c b a : Nat) : List (Nat × Nat) := (List.range p).flatMap fun x => roM p rt x (evN p c b a x)
theorem pt_eq {p : Nat} (hp : isP p) (c b a : Nat) : ptsN p c b a = ptM' p (rtT p) c b a := by
  have hp0 : 0 < p := by rcases hp with rfl | rfl | rfl | rfl | rfl <;> decide
  unfold ptsN ptM'
  apply flatMap_ext
  intro x _
  exact ro_eq hp x _ (Nat.mod_lt _ hp0)
/-- a step by the recursor itself -/
def cbM (p b a t x2 y2 n x y : Nat) (inf : Bool) : Bool :=
  Nat.rec (motive := fun _ => Nat → Nat → Bool → Bool) (fun _ _ inf => inf) (fun _ ih x y inf => cond inf (ih x2 y2 false)
      (cond (Nat.beq x x2) (cond (Nat.beq (Nat.mod (Nat.add y y2) p) 0) (ih 0 0 true)
          (cond (Nat.beq y y2) (stS p a t x y x2 (Nat.mod (Nat.mul 2 y) p) (Nat.add (Nat.mul (Nat.add (Nat.mul 3 x) (Nat.mul 2 a)) x) b) fun x y => ih x y false) false))
        (stS p a t x y x2 (Nat.mod (Nat.sub (Nat.add x2 p) x) p) (Nat.sub (Nat.add y2 p) y) fun x y => ih x y false))) n x y inf
theorem cbM_eq (p b a t x2 y2 : Nat) : ∀ (n x y : Nat) (inf : Bool), cbM p b a t x2 y2 n x y inf = cbN p b a t x2 y2 n x y inf
  | 0, _, _, _ => rfl
  | n + 1, x, y, inf => by
    have ih : ∀ x y inf, cbM p b a t x2 y2 n x y inf = cbN p b a t x2 y2 n x y inf := cbM_eq p b a t x2 y2 n
    unfold cbN
    simp only [← ih]
    rfl
/-! the same checks, quicker -/
def ckH (p it rt c b a N : Nat) : Bool :=
  Nat.ble (Nat.mul (Nat.add (Nat.sub p N) (Nat.sub N p)) (Nat.add (Nat.sub p N) (Nat.sub N p))) (Nat.mul 4 p) && ((fun l => Nat.beq l.length N &&
  (l.all fun q => cbM p b a it q.1 q.2 (Nat.add N 1) 0 0 true)) (ptM' p rt c b a))
def ckF (p it rt c b a N : Nat) : Bool :=
  Nat.ble N 100 && (Nat.beq (Nat.mod (Nat.add N ((pwN p c b a (p / 2) [1]).getD (p - 1) 0)) p) 0 && (
  Nat.beq (Nat.add N (nkN p (c * dN p ^ 3 % p) (b * dN p * dN p % p) (a * dN p % p))) (Nat.mul 2 p) && (
  (!(Nat.beq a 0 && (Nat.beq b 0 && Nat.beq (p % 3) 2 || Nat.beq c 0 && Nat.beq (p % 4) 3)) || Nat.beq N p) && (
  (fun g => cond (Nat.beq g 0) false (cond (Nat.beq g 1) (ckH p it rt c b a N && (Nat.blt 3 p || ck9 c b a N)) (ckS p N))) (gcN p it c b a)))))
theorem ckF_ck {p c b a N : Nat} (hp : isP p) (hc : c < p) (hb : b < p) (ha : a < 3) (h : ckF p (ivT p) (rtT p) c b a N = true) : ck p c b a N = true := by
  have hp3 : 3 ≤ p ∧ p < 14 := by rcases hp with rfl | rfl | rfl | rfl | rfl <;> decide
  unfold ckF at h
  unfold ck
  simp only [Bool.and_eq_true] at h ⊢
  obtain ⟨h1, h2, h3, h4, h5⟩ := h
  refine ⟨h1, h2, h3, h4, ?_⟩
  obtain ⟨g, hg⟩ : ∃ g, gcN p (ivT p) c b a = g := ⟨_, rfl⟩
  rw [hg] at h5
  cases h0 : Nat.beq g 0 with
  | true => rw [h0] at h5; cases h5
  | false =>
    rw [h0, cond_false] at h5
    rw [gc_eq hp hp3.2 hc hb (by omega) (by omega) hg (beq_no h0)]
    cases hg1 : Nat.beq g 1 with
    | true =>
      rw [hg1, cond_true] at h5
      dsimp only
      rw [Bool.and_eq_true] at h5 ⊢
      refine ⟨?_, h5.2⟩
      have h6 := h5.1
      unfold ckH at h6
      unfold ckG
      rw [pt_eq hp]
      simp only [cbM_eq] at h6
      exact h6
    | false =>
      rw [hg1, cond_false] at h5
      exact h5
/-- a row of curves -/
def rowF (p it rt b a : Nat) : Bool := (List.range p).all fun c => ckF p it rt c b a (nkN p c b a)
theorem rowF_law {p b a it rt : Nat} (hp : isP p) (hb : b < p) (ha : a < 3) (hi : it = ivT p) (hr : rt = rtT p) (h : rowF p it rt b a = true) : ∀ c : Nat, c < p → LawOk (p : Int) c b a := by
  intro c hc
  subst hi hr
  unfold rowF at h
  rw [List.all_eq_true] at h
  exact ck_law hp hc hb ha (ckF_ck hp hc hb ha (h c (by simpa using hc)))
end Mine
end
section
open PySem
set_option Elab.async false
set_option maxRecDepth 100000
namespace Mine
theorem r3n0n0 : rowF 3 0x210 0x10 0 0 = true := by decide +kernel
theorem r3n0n1 : rowF 3 0x210 0x10 1 0 = true := by decide +kernel
theorem r3n0n2 : rowF 3 0x210 0x10 2 0 = true := by decide +kernel
theorem r3n0 : ∀ b : Nat, b < 3 → rowF 3 0x210 0x10 b 0 = true
  | 0, _ => r3n0n0
  | 1, _ => r3n0n1
  | 2, _ => r3n0n2
  | b + 3, h => absurd h (by omega)
theorem r3n1n0 : rowF 3 0x210 0x10 0 1 = true := by decide +kernel
theorem r3n1n1 : rowF 3 0x210 0x10 1 1 = true := by decide +kernel
theorem r3n1n2 : rowF 3 0x210 0x10 2 1 = true := by decide +kernel
theorem r3n1 : ∀ b : Nat, b < 3 → rowF 3 0x210 0x10 b 1 = true
  | 0, _ => r3n1n0
  | 1, _ => r3n1n1
  | 2, _ => r3n1n2
  | b + 3, h => absurd h (by omega)
theorem r3n2n0 : rowF 3 0x210 0x10 0 2 = true := by decide +kernel
theorem r3n2n1 : rowF 3 0x210 0x10 1 2 = true := by decide +kernel
theorem r3n2n2 : rowF 3 0x210 0x10 2 2 = true := by decide +kernel
theorem r3n2 : ∀ b : Nat, b < 3 → rowF 3 0x210 0x10 b 2 = true
  | 0, _ => r3n2n0
  | 1, _ => r3n2n1
  | 2, _ => r3n2n2
  | b + 3, h => absurd h (by omega)
theorem r3n : ∀ a : Nat, a < 3 → ∀ b : Nat, b < 3 → rowF 3 0x210 0x10 b a = true
  | 0, _ => r3n0
  | 1, _ => r3n1
  | 2, _ => r3n2
  | a + 3, h => absurd h (by omega)
theorem r5n0n0 : rowF 5 0x42310 0x20010 0 0 = true := by decide +kernel
theorem r5n0n1 : rowF 5 0x42310 0x20010 1 0 = true := by decide +kernel
theorem r5n0n2 : rowF 5 0x42310 0x20010 2 0 = true := by decide +kernel
theorem r5n0n3 : rowF 5 0x42310 0x20010 3 0 = true := by decide +kernel
theorem r5n0n4 : rowF 5 0x42310 0x20010 4 0 = true := by decide +kernel
theorem r5n0 : ∀ b : Nat, b < 5 → rowF 5 0x42310 0x20010 b 0 = true
  | 0, _ => r5n0n0
  | 1, _ => r5n0n1
  | 2, _ => r5n0n2
  | 3, _ => r5n0n3
  | 4, _ => r5n0n4
  | b + 5, h => absurd h (by omega)
theorem r5n1n0 : rowF 5 0x42310 0x20010 0 1 = true := by decide +kernel
theorem r5n1n1 : rowF 5 0x42310 0x20010 1 1 = true := by decide +kernel
theorem r5n1n2 : rowF 5 0x42310 0x20010 2 1 = true := by decide +kernel
theorem r5n1n3 : rowF 5 0x42310 0x20010 3 1 = true := by decide +kernel
theorem r5n1n4 : rowF 5 0x42310 0x20010 4 1 = true := by decide +kernel
theorem r5n1 : ∀ b : Nat, b < 5 → rowF 5 0x42310 0x20010 b 1 = true
  | 0, _ => r5n1n0
  | 1, _ => r5n1n1
  | 2, _ => r5n1n2
  | 3, _ => r5n1n3
  | 4, _ => r5n1n4
  | b + 5, h => absurd h (by omega)
theorem r5n2n0 : rowF 5 0x42310 0x20010 0 2 = true := by decide +kernel
theorem r5n2n1 : rowF 5 0x42310 0x20010 1 2 = true := by decide +kernel
theorem r5n2n2 : rowF 5 0x42310 0x20010 2 2 = true := by decide +kernel
theorem r5n2n3 : rowF 5 0x42310 0x20010 3 2 = true := by decide +kernel
theorem r5n2n4 : rowF 5 0x42310 0x20010 4 2 = true := by decide +kernel
theorem r5n2 : ∀ b : Nat, b < 5 → rowF 5 0x42310 0x20010 b 2 = true
  | 0, _ => r5n2n0
  | 1, _ => r5n2n1
  | 2, _ => r5n2n2
  | 3, _ => r5n2n3
  | 4, _ => r5n2n4
  | b + 5, h => absurd h (by omega)
theorem r5n : ∀ a : Nat, a < 3 → ∀ b : Nat, b < 5 → rowF 5 0x42310 0x20010 b a = true
  | 0, _ => r5n0
  | 1, _ => r5n1
  | 2, _ => r5n2
  | a + 3, h => absurd h (by omega)
theorem r7n0n0 : rowF 7 0x6325410 131856 0 0 = true := by decide +kernel
theorem r7n0n1 : rowF 7 0x6325410 131856 1 0 = true := by decide +kernel
theorem r7n0n2 : rowF 7 0x6325410 131856 2 0 = true := by decide +kernel
theorem r7n0n3 : rowF 7 0x6325410 131856 3 0 = true := by decide +kernel
theorem r7n0n4 : rowF 7 0x6325410 131856 4 0 = true := by decide +kernel
theorem r7n0n5 : rowF 7 0x6325410 131856 5 0 = true := by decide +kernel
theorem r7n0n6 : rowF 7 0x6325410 131856 6 0 = true := by decide +kernel
theorem r7n0 : ∀ b : Nat, b < 7 → rowF 7 0x6325410 131856 b 0 = true
  | 0, _ => r7n0n0
  | 1, _ => r7n0n1
  | 2, _ => r7n0n2
  | 3, _ => r7n0n3
  | 4, _ => r7n0n4
  | 5, _ => r7n0n5
  | 6, _ => r7n0n6
  | b + 7, h => absurd h (by omega)
theorem r7n1n0 : rowF 7 0x6325410 131856 0 1 = true := by decide +kernel
theorem r7n1n1 : rowF 7 0x6325410 131856 1 1 = true := by decide +kernel
theorem r7n1n2 : rowF 7 0x6325410 131856 2 1 = true := by decide +kernel
theorem r7n1n3 : rowF 7 0x6325410 131856 3 1 = true := by decide +kernel
theorem r7n1n4 : rowF 7 0x6325410 131856 4 1 = true := by decide +kernel
theorem r7n1n5 : rowF 7 0x6325410 131856 5 1 = true := by decide +kernel
theorem r7n1n6 : rowF 7 0x6325410 131856 6 1 = true := by decide +kernel
theorem r7n1 : ∀ b : Nat, b < 7 → rowF 7 0x6325410 131856 b 1 = true
  | 0, _ => r7n1n0
  | 1, _ => r7n1n1
  | 2, _ => r7n1n2
  | 3, _ => r7n1n3
  | 4, _ => r7n1n4
  | 5, _ => r7n1n5
  | 6, _ => r7n1n6
  | b + 7, h => absurd h (by omega)
theorem r7n2n0 : rowF 7 0x6325410 131856 0 2 = true := by decide +kernel
theorem r7n2n1 : rowF 7 0x6325410 131856 1 2 = true := by decide +kernel
theorem r7n2n2 : rowF 7 0x6325410 131856 2 2 = true := by decide +kernel
theorem r7n2n3 : rowF 7 0x6325410 131856 3 2 = true := by decide +kernel
theorem r7n2n4 : rowF 7 0x6325410 131856 4 2 = true := by decide +kernel
theorem r7n2n5 : rowF 7 0x6325410 131856 5 2 = true := by decide +kernel
theorem r7n2n6 : rowF 7 0x6325410 131856 6 2 = true := by decide +kernel
theorem r7n2 : ∀ b : Nat, b < 7 → rowF 7 0x6325410 131856 b 2 = true
  | 0, _ => r7n2n0
  | 1, _ => r7n2n1
  | 2, _ => r7n2n2
  | 3, _ => r7n2n3
  | 4, _ => r7n2n4
  | 5, _ => r7n2n5
  | 6, _ => r7n2n6
  | b + 7, h => absurd h (by omega)
theorem r7n : ∀ a : Nat, a < 3 → ∀ b : Nat, b < 7 → rowF 7 0x6325410 131856 b a = true
  | 0, _ => r7n0
  | 1, _ => r7n1
  | 2, _ => r7n2
  | a + 3, h => absurd h (by omega)
theorem r11n0n0 : rowF 11 0xA5782934610 206162776080 0 0 = true := by decide +kernel
theorem r11n0n1 : rowF 11 0xA5782934610 206162776080 1 0 = true := by decide +kernel
theorem r11n0n2 : rowF 11 0xA5782934610 206162776080 2 0 = true := by decide +kernel
theorem r11n0n3 : rowF 11 0xA5782934610 206162776080 3 0 = true := by decide +kernel
theorem r11n0n4 : rowF 11 0xA5782934610 206162776080 4 0 = true := by decide +kernel
theorem r11n0n5 : rowF 11 0xA5782934610 206162776080 5 0 = true := by decide +kernel
theorem r11n0n6 : rowF 11 0xA5782934610 206162776080 6 0 = true := by decide +kernel
theorem r11n0n7 : rowF 11 0xA5782934610 206162776080 7 0 = true := by decide +kernel
theorem r11n0n8 : rowF 11 0xA5782934610 206162776080 8 0 = true := by decide +kernel
theorem r11n0n9 : rowF 11 0xA5782934610 206162776080 9 0 = true := by decide +kernel
theorem r11n0n10 : rowF 11 0xA5782934610 206162776080 10 0 = true := by decide +kernel
theorem r11n0 : ∀ b : Nat, b < 11 → rowF 11 0xA5782934610 206162776080 b 0 = true
  | 0, _ => r11n0n0
  | 1, _ => r11n0n1
  | 2, _ => r11n0n2
  | 3, _ => r11n0n3
  | 4, _ => r11n0n4
  | 5, _ => r11n0n5
  | 6, _ => r11n0n6
  | 7, _ => r11n0n7
  | 8, _ => r11n0n8
  | 9, _ => r11n0n9
  | 10, _ => r11n0n10
  | b + 11, h => absurd h (by omega)
theorem r11n1n0 : rowF 11 0xA5782934610 206162776080 0 1 = true := by decide +kernel
theorem r11n1n1 : rowF 11 0xA5782934610 206162776080 1 1 = true := by decide +kernel
theorem r11n1n2 : rowF 11 0xA5782934610 206162776080 2 1 = true := by decide +kernel
theorem r11n1n3 : rowF 11 0xA5782934610 206162776080 3 1 = true := by decide +kernel
theorem r11n1n4 : rowF 11 0xA5782934610 206162776080 4 1 = true := by decide +kernel
theorem r11n1n5 : rowF 11 0xA5782934610 206162776080 5 1 = true := by decide +kernel
theorem r11n1n6 : rowF 11 0xA5782934610 206162776080 6 1 = true := by decide +kernel
theorem r11n1n7 : rowF 11 0xA5782934610 206162776080 7 1 = true := by decide +kernel
theorem r11n1n8 : rowF 11 0xA5782934610 206162776080 8 1 = true := by decide +kernel
theorem r11n1n9 : rowF 11 0xA5782934610 206162776080 9 1 = true := by decide +kernel
theorem r11n1n10 : rowF 11 0xA5782934610 206162776080 10 1 = true := by decide +kernel
theorem r11n1 : ∀ b : Nat, b < 11 → rowF 11 0xA5782934610 206162776080 b 1 = true
  | 0, _ => r11n1n0
  | 1, _ => r11n1n1
  | 2, _ => r11n1n2
  | 3, _ => r11n1n3
  | 4, _ => r11n1n4
  | 5, _ => r11n1n5
  | 6, _ => r11n1n6
  | 7, _ => r11n1n7
  | 8, _ => r11n1n8
  | 9, _ => r11n1n9
  | 10, _ => r11n1n10
  | b + 11, h => absurd h (by omega)
theorem r11n2n0 : rowF 11 0xA5782934610 206162776080 0 2 = true := by decide +kernel
theorem r11n2n1 : rowF 11 0xA5782934610 206162776080 1 2 = true := by decide +kernel
theorem r11n2n2 : rowF 11 0xA5782934610 206162776080 2 2 = true := by decide +kernel
theorem r11n2n3 : rowF 11 0xA5782934610 206162776080 3 2 = true := by decide +kernel
theorem r11n2n4 : rowF 11 0xA5782934610 206162776080 4 2 = true := by decide +kernel
theorem r11n2n5 : rowF 11 0xA5782934610 206162776080 5 2 = true := by decide +kernel
theorem r11n2n6 : rowF 11 0xA5782934610 206162776080 6 2 = true := by decide +kernel
theorem r11n2n7 : rowF 11 0xA5782934610 206162776080 7 2 = true := by decide +kernel
theorem r11n2n8 : rowF 11 0xA5782934610 206162776080 8 2 = true := by decide +kernel
theorem r11n2n9 : rowF 11 0xA5782934610 206162776080 9 2 = true := by decide +kernel
theorem r11n2n10 : rowF 11 0xA5782934610 206162776080 10 2 = true := by decide +kernel
theorem r11n2 : ∀ b : Nat, b < 11 → rowF 11 0xA5782934610 206162776080 b 2 = true
  | 0, _ => r11n2n0
  | 1, _ => r11n2n1
  | 2, _ => r11n2n2
  | 3, _ => r11n2n3
  | 4, _ => r11n2n4
  | 5, _ => r11n2n5
  | 6, _ => r11n2n6
  | 7, _ => r11n2n7
  | 8, _ => r11n2n8
  | 9, _ => r11n2n9
  | 10, _ => r11n2n10
  | b + 11, h => absurd h (by omega)
theorem r11n : ∀ a : Nat, a < 3 → ∀ b : Nat, b < 11 → rowF 11 0xA5782934610 206162776080 b a = true
  | 0, _ => r11n0
  | 1, _ => r11n1
  | 2, _ => r11n2
  | a + 3, h => absurd h (by omega)
theorem r13n0n0 : rowF 13 0xC64352B8A9710 1414178111897616 0 0 = true := by decide +kernel
theorem r13n0n1 : rowF 13 0xC64352B8A9710 1414178111897616 1 0 = true := by decide +kernel
theorem r13n0n2 : rowF 13 0xC64352B8A9710 1414178111897616 2 0 = true := by decide +kernel
theorem r13n0n3 : rowF 13 0xC64352B8A9710 1414178111897616 3 0 = true := by decide +kernel
theorem r13n0n4 : rowF 13 0xC64352B8A9710 1414178111897616 4 0 = true := by decide +kernel
theorem r13n0n5 : rowF 13 0xC64352B8A9710 1414178111897616 5 0 = true := by decide +kernel
theorem r13n0n6 : rowF 13 0xC64352B8A9710 1414178111897616 6 0 = true := by decide +kernel
theorem r13n0n7 : rowF 13 0xC64352B8A9710 1414178111897616 7 0 = true := by decide +kernel
theorem r13n0n8 : rowF 13 0xC64352B8A9710 1414178111897616 8 0 = true := by decide +kernel
theorem r13n0n9 : rowF 13 0xC64352B8A9710 1414178111897616 9 0 = true := by decide +kernel
theorem r13n0n10 : rowF 13 0xC64352B8A9710 1414178111897616 10 0 = true := by decide +kernel
theorem r13n0n11 : rowF 13 0xC64352B8A9710 1414178111897616 11 0 = true := by decide +kernel
theorem r13n0n12 : rowF 13 0xC64352B8A9710 1414178111897616 12 0 = true := by decide +kernel
theorem r13n0 : ∀ b : Nat, b < 13 → rowF 13 0xC64352B8A9710 1414178111897616 b 0 = true
  | 0, _ => r13n0n0
  | 1, _ => r13n0n1
  | 2, _ => r13n0n2
  | 3, _ => r13n0n3
  | 4, _ => r13n0n4
  | 5, _ => r13n0n5
  | 6, _ => r13n0n6
  | 7, _ => r13n0n7
  | 8, _ => r13n0n8
  | 9, _ => r13n0n9
  | 10, _ => r13n0n10
  | 11, _ => r13n0n11
  | 12, _ => r13n0n12
  | b + 13, h => absurd h (by omega)
theorem r13n1n0 : rowF 13 0xC64352B8A9710 1414178111897616 0 1 = true := by decide +kernel
theorem r13n1n1 : rowF 13 0xC64352B8A9710 1414178111897616 1 1 = true := by decide +kernel
theorem r13n1n2 : rowF 13 0xC64352B8A9710 1414178111897616 2 1 = true := by decide +kernel
theorem r13n1n3 : rowF 13 0xC64352B8A9710 1414178111897616 3 1 = true := by decide +kernel
theorem r13n1n4 : rowF 13 0xC64352B8A9710 1414178111897616 4 1 = true := by decide +kernel
theorem r13n1n5 : rowF 13 0xC64352B8A9710 1414178111897616 5 1 = true := by decide +kernel
theorem r13n1n6 : rowF 13 0xC64352B8A9710 1414178111897616 6 1 = true := by decide +kernel
theorem r13n1n7 : rowF 13 0xC64352B8A9710 1414178111897616 7 1 = true := by decide +kernel
theorem r13n1n8 : rowF 13 0xC64352B8A9710 1414178111897616 8 1 = true := by decide +kernel
theorem r13n1n9 : rowF 13 0xC64352B8A9710 1414178111897616 9 1 = true := by decide +kernel
theorem r13n1n10 : rowF 13 0xC64352B8A9710 1414178111897616 10 1 = true := by decide +kernel
theorem r13n1n11 : rowF 13 0xC64352B8A9710 1414178111897616 11 1 = true := by decide +kernel
theorem r13n1n12 : rowF 13 0xC64352B8A9710 1414178111897616 12 1 = true := by decide +kernel
theorem r13n1 : ∀ b : Nat, b < 13 → rowF 13 0xC64352B8A9710 1414178111897616 b 1 = true
  | 0, _ => r13n1n0
  | 1, _ => r13n1n1
  | 2, _ => r13n1n2
  | 3, _ => r13n1n3
  | 4, _ => r13n1n4
  | 5, _ => r13n1n5
  | 6, _ => r13n1n6
  | 7, _ => r13n1n7
  | 8, _ => r13n1n8
  | 9, _ => r13n1n9
  | 10, _ => r13n1n10
  | 11, _ => r13n1n11
  | 12, _ => r13n1n12
  | b + 13, h => absurd h (by omega)
theorem r13n2n0 : rowF 13 0xC64352B8A9710 1414178111897616 0 2 = true := by decide +kernel
theorem r13n2n1 : rowF 13 0xC64352B8A9710 1414178111897616 1 2 = true := by decide +kernel
theorem r13n2n2 : rowF 13 0xC64352B8A9710 1414178111897616 2 2 = true := by decide +kernel
theorem r13n2n3 : rowF 13 0xC64352B8A9710 1414178111897616 3 2 = true := by decide +kernel
theorem r13n2n4 : rowF 13 0xC64352B8A9710 1414178111897616 4 2 = true := by decide +kernel
theorem r13n2n5 : rowF 13 0xC64352B8A9710 1414178111897616 5 2 = true := by decide +kernel
theorem r13n2n6 : rowF 13 0xC64352B8A9710 1414178111897616 6 2 = true := by decide +kernel
theorem r13n2n7 : rowF 13 0xC64352B8A9710 1414178111897616 7 2 = true := by decide +kernel
theorem r13n2n8 : rowF 13 0xC64352B8A9710 1414178111897616 8 2 = true := by decide +kernel
theorem r13n2n9 : rowF 13 0xC64352B8A9710 1414178111897616 9 2 = true := by decide +kernel
theorem r13n2n10 : rowF 13 0xC64352B8A9710 1414178111897616 10 2 = true := by decide +kernel
theorem r13n2n11 : rowF 13 0xC64352B8A9710 1414178111897616 11 2 = true := by decide +kernel
theorem r13n2n12 : rowF 13 0xC64352B8A9710 1414178111897616 12 2 = true := by decide +kernel
theorem r13n2 : ∀ b : Nat, b < 13 → rowF 13 0xC64352B8A9710 1414178111897616 b 2 = true
  | 0, _ => r13n2n0
  | 1, _ => r13n2n1
  | 2, _ => r13n2n2
  | 3, _ => r13n2n3
  | 4, _ => r13n2n4
  | 5, _ => r13n2n5
  | 6, _ => r13n2n6
  | 7, _ => r13n2n7
  | 8, _ => r13n2n8
  | 9, _ => r13n2n9
  | 10, _ => r13n2n10
  | 11, _ => r13n2n11
  | 12, _ => r13n2n12
  | b + 13, h => absurd h (by omega)
theorem r13n : ∀ a : Nat, a < 3 → ∀ b : Nat, b < 13 → rowF 13 0xC64352B8A9710 1414178111897616 b a = true
  | 0, _ => r13n0
  | 1, _ => r13n1
  | 2, _ => r13n2
  | a + 3, h => absurd h (by omega)
theorem rows {p : Nat} (hp : isP p) : ∀ a : Nat, a < 3 → ∀ b : Nat, b < p → ∀ c : Nat, c < p → LawOk (p : Int) c b a := by
  have h := hp
  rcases h with rfl | rfl | rfl | rfl | rfl
  · exact fun a ha b hb => rowF_law hp hb ha rfl rfl (r3n a ha b hb)
  · exact fun a ha b hb => rowF_law hp hb ha rfl rfl (r5n a ha b hb)
  · exact fun a ha b hb => rowF_law hp hb ha rfl rfl (r7n a ha b hb)
  · exact fun a ha b hb => rowF_law hp hb ha rfl rfl (r11n a ha b hb)
  · exact fun a ha b hb => rowF_law hp hb ha rfl rfl (r13n a ha b hb)
theorem law_ok (p c b a : Int) (hp : p ∈ ([7, 5, 11, 13, 3] : List Int)) (c0 : 0 ≤ c) (c1 : c < p) (b0 : 0 ≤ b) (b1 : b < p) (a0 : 0 ≤ a) (a1 : a < 3) : LawOk p c b a := by
  have h : ∃ q : Nat, isP q ∧ p = q := by
    simp only [List.mem_cons, List.not_mem_nil, or_false] at hp
    rcases hp with rfl | rfl | rfl | rfl | rfl
    · exact ⟨7, .inr (.inr (.inl rfl)), rfl⟩
    · exact ⟨5, .inr (.inl rfl), rfl⟩
    · exact ⟨11, .inr (.inr (.inr (.inl rfl))), rfl⟩
    · exact ⟨13, .inr (.inr (.inr (.inr rfl))), rfl⟩
    · exact ⟨3, .inl rfl, rfl⟩
  obtain ⟨q, hq, rfl⟩ := h
  obtain ⟨c, rfl⟩ : ∃ n : Nat, c = n := ⟨c.toNat, by omega⟩
  obtain ⟨b, rfl⟩ : ∃ n : Nat, b = n := ⟨b.toNat, by omega⟩
  obtain ⟨a, rfl⟩ : ∃ n : Nat, a = n := ⟨a.toNat, by omega⟩
  exact rows hq a (by omega) b (by omega) c (by omega)
end Mine
end
section
open PySem PySem.W PyProof.Rows
set_option Elab.async false
set_option maxRecDepth 100000
namespace Mine
/-- what the law's top must show -/
def bnames : List Str := ["len", "range", "list", "enumerate", "max", "abs"]
structure TopOk (V : Program) : Prop where
  recs : (recsOf V).map (fun d => (d.name, d.params, d.body, d.scope)) = fdefs
  lits : wlitsOf V = [(Str.ofString "_law_primes", WData.tuple [WData.int 7, WData.int 5, WData.int 11, WData.int 13, WData.int 3])]
  free : (bnames.all fun x => decide (x ∉ startupNames ∧ x ∉ looseW V [] ∧ x ∉ (recsOf V).map (·.name) ∧ x ∉ (litsOf V).map (·.1) ∧ x ∉ (clssOf V (looseW V [])).map (·.name) ∧ x ≠ "__name__")) = true
theorem built_of {V : Program} (O : TopOk V) {mg mb : Str → Option Value} {mean : ExcName → Option Value} {h : Heap} (T : Top V (looseW V []) mean mg mb h) (x : Str) (v : Value) (h1 : x ∈ bnames) (h2 : bootBuiltins x = some v) : BuiltIs h x v := by
  have := O.free
  rw [List.all_eq_true] at this
  obtain ⟨a1, a2, a3, a4, a5, a6⟩ := of_decide_eq_true (this x h1)
  exact ⟨mg, mb, T.g, T.free x a1 a2 a3 a4 a5, T.b, by rw [T.builtins x a6]; exact h2⟩
theorem bs_of {V : Program} (O : TopOk V) {mg mb : Str → Option Value} {mean : ExcName → Option Value} {h : Heap} (T : Top V (looseW V []) mean mg mb h) : Bs h := by
  refine ⟨T.nolimit, fun i hi => ?_, ?_, ?_, ?_, ?_, ?_, ?_⟩
  · have hl : (recsOf V).length = 33 := by
      have := congrArg List.length O.recs
      rw [List.length_map] at this
      rw [this]; decide +kernel
    have hm : (recsOf V)[i]'(by omega) ∈ recsOf V := List.getElem_mem _
    obtain ⟨a, o, pm, code, doc, h1, h2, h3, h4⟩ := T.fn _ hm
    have e : fdn i = (((recsOf V)[i]'(by omega)).name, ((recsOf V)[i]'(by omega)).params, ((recsOf V)[i]'(by omega)).body, ((recsOf V)[i]'(by omega)).scope) := by
      unfold fdn
      rw [← O.recs, List.getD_eq_getElem?_getD, List.getElem?_map, List.getElem?_eq_getElem (by omega)]; rfl
    unfold nmF paF boF scF
    rw [e]
    exact ⟨a, o, pm, code, doc, ⟨mg, T.g, h1⟩, h2, h3, h4⟩
  all_goals exact built_of O T _ _ (by decide +kernel) rfl
theorem readsInts {R : WRecords} {cl : Str → Option Addr} {h : Heap} : ∀ {ns : List Int} {vs : List Value} {as : List Addr}, ReadsAllW R cl h vs (ns.map WData.int) as → IntsAre vs ns
  | [], _, _, h => by cases h; exact .nil
  | n :: r, _, _, h => by
    cases h with
    | cons q h =>
      cases q
      exact .cons _ _ (readsInts h)
theorem primes_of' {V : Program} (O : TopOk V) {mg : Str → Option Value} {h : Heap} (g : h.Ns mainGlobals mg) (TW : TopW V mg h) : GlobInts h "_law_primes" [7, 5, 11, 13, 3] := by
  obtain ⟨v, h1, h2⟩ := TW.lits (Str.ofString "_law_primes", WData.tuple [WData.int 7, WData.int 5, WData.int 11, WData.int 13, WData.int 3]) (by rw [O.lits]; exact List.mem_singleton.mpr rfl)
  dsimp only at h1 h2
  cases h2 with
  | tuple e1 e2 e3 e4 =>
    exact ⟨_, _, ⟨mg, g, h1⟩, ⟨_, e1, e2, _, e3⟩, readsInts (ns := [7, 5, 11, 13, 3]) e4⟩
theorem law_end {V : Program} (O : TopOk V) {w : World} {prog : Program} {mg mb : Str → Option Value} {mean : ExcName → Option Value} {s : Shared} (T : Top V (looseW V []) mean mg mb s.heap) (TW : TopW V mg s.heap) {fa l : Addr} {vals : List Value} {script : List Int}
    (hmg : mg (Str.ofString "law") = some (.ref fa)) (hL : s.heap.IsList l vals.toArray) (hI : IntsAre vals script) (hlen : script.length ≤ 100) {RR : Result → Shared → Prop}
    (h : ∀ h' tk, (∀ b o, s.heap.get? b = some o → h'.get? b = some o) → RR (.ok (.ret (.bool true))) { s with heap := h', toks := tk }) :
    codeAny (model prog w) callerA (.call (.ref fa) ⟨[.ref l], []⟩) RR s := by
  have B := bs_of O T
  have hpr := primes_of' O T.g TW
  obtain ⟨a, o, pm, cd, doc, ⟨mg', g1, g2⟩, h2, h3, h4⟩ := B.at 32 (by decide) (Str.ofString "law") (by decide +kernel)
  have hmm : a = fa := by
    have e1 : mg' = mg := (Heap.Ns.eq_nsMap g1).trans (Heap.Ns.eq_nsMap T.g).symm
    rw [e1, hmg] at g2
    cases g2; rfl
  subst hmm
  have ok : Okay s.heap ⟨s.heap.get?, none⟩ s ([], 0) := ⟨fun _ _ e => e, fun _ _ e => e, fun a q => by cases q⟩
  obtain ⟨lo, e1, e2, n, e3⟩ := hL
  refine FnK.of_ex (names := ["script"]) (rest := ["box", "p", "c", "b", "a", "f", "t", "raised", "d", "slope"]) (xs := [.list (script.map .int)]) (β := ([], 0)) (d := 9) B.lim h2 h3 h4 (fun vs h => ?_) rfl (by decide +kernel) (by decide +kernel) (by decide +kernel) (by decide +kernel) (by decide +kernel) ?_ (W := ⟨s.heap.get?, none⟩) ⟨rfl, by decide, by decide⟩ ok rfl (.cons (.list e1 e2 e3 (RVs.ofInts hI)) .nil) h
  · match vs, h with
    | [a], _ => kernel_rfl!
  · have hj : 0 ≤ tkV (script.take 5) 0 5 ∧ tkV (script.take 5) 0 5 < 5 := by unfold tkV; split <;> exact fmod_sm (by decide)
    obtain ⟨j, hj'⟩ : ∃ j : Nat, tkV (script.take 5) 0 5 = j := ⟨(tkV (script.take 5) 0 5).toNat, by omega⟩
    have hj5 : j < 5 := by omega
    obtain ⟨p, hp⟩ : ∃ p, ([7, 5, 11, 13, 3] : List Int)[j]? = some p := ⟨_, List.getElem?_eq_getElem (by simpa using hj5)⟩
    have hpm := List.mem_of_getElem? hp
    have hp2 : 2 < p ∧ p < 14 := by
      simp only [List.mem_cons, List.not_mem_nil, or_false] at hpm
      omega
    have t1 : ∀ k, 0 ≤ tkV (script.take 5) k p ∧ tkV (script.take 5) k p < p := fun k => by unfold tkV; split <;> exact fmod_sm (by omega)
    have t3 : 0 ≤ tkV (script.take 5) 3 3 ∧ tkV (script.take 5) 3 3 < 3 := by unfold tkV; split <;> exact fmod_sm (by decide)
    exact law_run B hpr hlen ⟨j, hj', hp⟩ hp2.1 hp2.2 rfl rfl rfl (law_ok p _ _ _ hpm (t1 1).1 (t1 1).2 (t1 2).1 (t1 2).2 t3.1 t3.2)
end Mine
end
open PySem PySem.W PyProof.Rows
set_option Elab.async false
set_option maxRecDepth 100000
namespace Mine
/-- the statements of the top that the law's call can see: the defs, the class, the primes -/
def seen : Stmt → Bool
  | .FunctionDef .. => true
  | .ClassDef .. => true
  | .Assign [.Name n _] _ _ => n != "__name__"
  | _ => false
def vw : Program := { PySem.Challenge.pw_tk0036_01 with main := { PySem.Challenge.pw_tk0036_01.main with body := PySem.Challenge.pw_tk0036_01.main.body.filter seen } }
theorem vw_recs : (recsOf vw).map (fun d => (d.name, d.params, d.body, d.scope)) = fdefs := by kernel_rfl
theorem vw_lits : wlitsOf vw = [(Str.ofString "_law_primes", WData.tuple [WData.int 7, WData.int 5, WData.int 11, WData.int 13, WData.int 3])] := by kernel_rfl
theorem vw_ok : TopOk vw := ⟨vw_recs, vw_lits, by decide +kernel⟩
/-- the top runs through, in every world: one check -/
theorem left : LeftO (OpenRow.toRowW PySem.Challenge.rw_tk0036_01.row).prog vw [] (fun s => xlAt vw [] s && recOk (RowW.records (OpenRow.toRowW PySem.Challenge.rw_tk0036_01.row)) s) (Hook.obs Hook.none) (Hook.val Hook.none) 2812 := by
  intro w
  kernel_rfl
end Mine
set_option maxHeartbeats 8000000 in
theorem PySem.Challenge.cw_tk0036_01_holds : PySem.Challenge.rw_tk0036_01.Holds := by
  w_on; o_law
  refine PySem.W.holds_open (XP := XL Mine.vw []) (YP := Hook.says Hook.none) Mine.left (Hook.of Hook.none) (Hook.keeps Hook.none) (fun s e => xl_of s (Bool.and_eq_true_iff.mp e).1) XL.keeps (by rfl) (by rfl) (by rfl) (fun s e => recFacts_of (Bool.and_eq_true_iff.mp e).2) (by rfl) (by first | assumption | decide +kernel) (by decide +kernel) ⟨rfl, rfl, rfl, rfl, rfl, by decide +kernel⟩ ?hw ?hc
  case hw => w_witness2
  w_strict (
    intro w s₀ s₁ mg mb G Y fa o pm cd doc dV kV ho hd hcd hD hmg hg args vals as hpre hlay hrd hwl hlo
    refine Ground.open G ?_
    intro T B D TE TW
    try (refine guard_noD D (by decide +kernel) ?_; clear D)
    clear hcd hD
    wrow_args hpre hlay hrd hwl hlo
    all_goals (
      refine enter_call ?_
      clear hd
      refine codeAny_mono ?_ (fun _ _ g => GoodW.toG g)
      refine Mine.law_end Mine.vw_ok T TW hmg (by assumption) (by assumption) (by omega) fun h' tk hk => ?_
      refine ⟨.inl ⟨.bool true, .bool true, [], rfl, fun _ => rfl, .bool _, ?post, fun _ => ⟨.nil, fun _ q => nomatch q⟩⟩, hk, rfl, hg⟩
      case post => kernel_rfl!))
