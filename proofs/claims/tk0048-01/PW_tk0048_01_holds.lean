import PyProof.Rows.All
import Wide.All
import OpenK.AllK
import Wide.FinOn
import KE.KBits
import KE.BitLaws
import KE.IntBitsLaws
import PyProof.RangeFor
import PyProof.Rows.BitMore
import PySem.Challenge.RW_tk0048_01
set_option Elab.async false
set_option maxRecDepth 100000
set_option linter.unusedVariables false
section
open PySem PySem.W PyProof.Rows PySem.Calls
namespace Mine

/-! ## abstract values, objects, heaps -/
inductive AV where
  | int (i : Int)
  | bool (b : Bool)
  | none
  | ref (a : Addr)
  | bi (id : String)
  | ty (n : String)

def VR : AV → Value → Prop
  | .int i, v => ∃ t, v = .int i t
  | .bool b, v => v = .bool b
  | .none, v => v = .none
  | .ref a, v => v = .ref a
  | .bi n, v => v = .builtin n
  | .ty n, v => v = .type n

inductive VRs : List AV → List Value → Prop
  | nil : VRs [] []
  | cons {a : AV} {v : Value} {as : List AV} {vs : List Value} : VR a v → VRs as vs → VRs (a :: as) (v :: vs)

theorem VRs.length {as : List AV} {vs : List Value} (h : VRs as vs) : as.length = vs.length := by
  induction h with
  | nil => rfl
  | cons _ _ ih => simp [ih]
theorem VRs.append {as bs : List AV} {vs ws : List Value} (h : VRs as vs) (k : VRs bs ws) : VRs (as ++ bs) (vs ++ ws) := by
  induction h with
  | nil => exact k
  | cons x _ ih => exact .cons x ih
theorem VRs.get {as : List AV} {vs : List Value} (h : VRs as vs) {i : Nat} {a : AV} (e : as[i]? = some a) : ∃ v, vs[i]? = some v ∧ VR a v := by
  induction h generalizing i with
  | nil => simp at e
  | cons x _ ih =>
    cases i with
    | zero => simp at e; subst e; exact ⟨_, by simp, x⟩
    | succ i => simpa using ih (by simpa using e)
theorem VRs.get' {as : List AV} {vs : List Value} (h : VRs as vs) {i : Nat} {v : Value} (e : vs[i]? = some v) : ∃ a, as[i]? = some a ∧ VR a v := by
  induction h generalizing i with
  | nil => simp at e
  | cons x _ ih =>
    cases i with
    | zero => simp at e; subst e; exact ⟨_, by simp, x⟩
    | succ i => simpa using ih (by simpa using e)
theorem VRs.set {as : List AV} {vs : List Value} (h : VRs as vs) {i : Nat} {a : AV} {v : Value} (x : VR a v) : VRs (as.set i a) (vs.set i v) := by
  induction h generalizing i with
  | nil => exact .nil
  | cons y _ ih =>
    cases i with
    | zero => exact .cons x (by assumption)
    | succ i => exact .cons y ih
theorem VRs.take {as : List AV} {vs : List Value} (h : VRs as vs) (n : Nat) : VRs (as.take n) (vs.take n) := by
  induction h generalizing n with
  | nil => simp; exact .nil
  | cons y _ ih => cases n with
    | zero => exact .nil
    | succ n => exact .cons y (ih n)
theorem VRs.drop {as : List AV} {vs : List Value} (h : VRs as vs) (n : Nat) : VRs (as.drop n) (vs.drop n) := by
  induction h generalizing n with
  | nil => simp; exact .nil
  | cons y r ih => cases n with
    | zero => exact .cons y r
    | succ n => exact ih n

inductive AO where
  | list (xs : List AV)
  | tup (xs : List AV)
  | dict (f : Int → Option AV) (n : Nat)
  | rng (x y z : Int)
  | cell (v : AV)
  | cell0
  | obj (o : Obj)

abbrev iL (ns : List Int) : List AV := ns.map AV.int

abbrev Hp := Addr → Option AO
def up (hp : Hp) (a : Addr) (o : AO) : Hp := fun b => if b = a then some o else hp b
@[simp] theorem up_same (hp : Hp) (a : Addr) (o : AO) : up hp a o a = some o := by simp [up]
theorem up_ne {hp : Hp} {a b : Addr} {o : AO} (h : b ≠ a) : up hp a o b = hp b := by simp [up, h]
theorem up_up (hp : Hp) (a : Addr) (o o' : AO) : up (up hp a o) a o' = up hp a o' := by
  funext b; simp only [up]; split <;> rfl

variable (prog : Program) (w : World)

def OR (h : Heap) (a : Addr) : AO → Prop
  | .list xs => ∃ vs : List Value, h.PlainList a vs.toArray ∧ VRs xs vs
  | .tup xs => ∃ vs : List Value, h.IsTuple a vs.toArray ∧ VRs xs vs
  | .dict f n => ∃ cv : List (Int × Value), h.DictOf (intKind prog w) a cv ∧ (a == sysModules) = false ∧ cv.length ≤ n ∧ (∀ k, f k = none → valueAt cv k = none) ∧ ∀ k x, f k = some x → ∃ v, valueAt cv k = some v ∧ VR x v
  | .rng x y z => ∃ t u v, IsRange h a x y z t u v
  | .cell v => ∃ o vc, h.get? a = some o ∧ o.data = .cell (some vc) ∧ VR v vc
  | .cell0 => ∃ o, h.get? a = some o ∧ o.data = .cell none
  | .obj o => h.get? a = some o

variable {prog : Program} {w : World}
theorem OR.keep {h h' : Heap} {a : Addr} {o : AO} (x : OR prog w h a o) (k : ∀ ob, h.get? a = some ob → h'.get? a = some ob) : OR prog w h' a o := by
  cases o with
  | list xs => obtain ⟨vs, p, r⟩ := x; exact ⟨vs, p.at k, r⟩
  | tup xs => obtain ⟨vs, ⟨ob, e, q⟩, r⟩ := x; exact ⟨vs, ⟨ob, k _ e, q⟩, r⟩
  | dict f n => obtain ⟨cv, ⟨ob, es, ep, e, q⟩, r⟩ := x; exact ⟨cv, ⟨ob, es, ep, k _ e, q⟩, r⟩
  | rng a b c => obtain ⟨t, u, v, e⟩ := x; exact ⟨t, u, v, k _ e⟩
  | cell v => obtain ⟨ob, vc, e, q⟩ := x; exact ⟨ob, vc, k _ e, q⟩
  | cell0 => obtain ⟨ob, e, q⟩ := x; exact ⟨ob, k _ e, q⟩
  | obj ob => exact k _ x
theorem OR.has {h : Heap} {a : Addr} {o : AO} (x : OR prog w h a o) : ∃ ob, h.get? a = some ob := by
  cases o with
  | list xs => obtain ⟨vs, ⟨n, e⟩, r⟩ := x; exact ⟨_, e⟩
  | tup xs => obtain ⟨vs, ⟨ob, e, q⟩, r⟩ := x; exact ⟨_, e⟩
  | dict f n => obtain ⟨cv, ⟨ob, es, ep, e, q⟩, r⟩ := x; exact ⟨_, e⟩
  | rng a b c => obtain ⟨t, u, v, e⟩ := x; exact ⟨_, e⟩
  | cell v => obtain ⟨ob, vc, e, q⟩ := x; exact ⟨_, e⟩
  | cell0 => obtain ⟨ob, e, q⟩ := x; exact ⟨_, e⟩
  | obj ob => exact ⟨_, x⟩

abbrev Fz := Addr → Option Obj
structure HR (prog : Program) (w : World) (F : Fz) (hp : Hp) (h : Heap) : Prop where
  fz : ∀ a o, F a = some o → h.get? a = some o
  ob : ∀ a o, hp a = some o → F a = none ∧ OR prog w h a o

theorem HR.keep {F : Fz} {hp : Hp} {h h' : Heap} (x : HR prog w F hp h) (k : ∀ b o, h.get? b = some o → h'.get? b = some o) : HR prog w F hp h' :=
  ⟨fun a o e => k _ _ (x.fz a o e), fun a o e => ⟨(x.ob a o e).1, (x.ob a o e).2.keep fun _ q => k _ _ q⟩⟩
theorem HR.lt {F : Fz} {hp : Hp} {h : Heap} (x : HR prog w F hp h) {a : Addr} {o : AO} (e : hp a = some o) : a < h.objs.size :=
  let ⟨_, q⟩ := (x.ob a o e).2.has; Heap.lt_size q
theorem HR.fresh {F : Fz} {hp : Hp} {h : Heap} (x : HR prog w F hp h) {a : Addr} (e : h.objs.size ≤ a) : hp a = none ∧ F a = none := by
  constructor
  · cases q : hp a with
    | none => rfl
    | some o => exact absurd (x.lt q) (Nat.not_lt.mpr e)
  · cases q : F a with
    | none => rfl
    | some o => exact absurd (Heap.lt_size (x.fz a o q)) (Nat.not_lt.mpr e)
/-- a new object -/
theorem HR.new {F : Fz} {hp : Hp} {h h' : Heap} (x : HR prog w F hp h) {a : Addr} {o : AO} (hs : h.objs.size ≤ a) (k : ∀ b o, h.get? b = some o → h'.get? b = some o) (y : OR prog w h' a o) : HR prog w F (up hp a o) h' := by
  obtain ⟨f1, f2⟩ := x.fresh hs
  refine ⟨fun b ob e => k _ _ (x.fz b ob e), fun b ob e => ?_⟩
  by_cases hb : b = a
  · subst hb; simp at e; subst e; exact ⟨f2, y⟩
  · rw [up_ne hb] at e; exact ⟨(x.ob _ _ e).1, (x.ob _ _ e).2.keep fun _ q => k _ _ q⟩
/-- an object changed -/
theorem HR.chg {F : Fz} {hp : Hp} {h h' : Heap} (x : HR prog w F hp h) {a : Addr} {o₀ o : AO} (e₀ : hp a = some o₀) (k : Heap.ExtBut a h h') (y : OR prog w h' a o) : HR prog w F (up hp a o) h' := by
  refine ⟨fun b ob e => k _ _ (fun q => ?_) (x.fz b ob e), fun b ob e => ?_⟩
  · subst q; rw [(x.ob _ _ e₀).1] at e; cases e
  · by_cases hb : b = a
    · subst hb; simp at e; subst e; exact ⟨(x.ob _ _ e₀).1, y⟩
    · rw [up_ne hb] at e; exact ⟨(x.ob _ _ e).1, (x.ob _ _ e).2.keep fun _ q => k _ _ hb q⟩
/-- less is known -/
theorem HR.less {F : Fz} {hp hp' : Hp} {h : Heap} (x : HR prog w F hp h) (k : ∀ a o, hp' a = some o → hp a = some o) : HR prog w F hp' h :=
  ⟨x.fz, fun a o e => x.ob a o (k a o e)⟩

abbrev Lm := List (Str × AV)
def FRM (L : Addr) (m : Lm) (h : Heap) : Prop := ∃ mc, h.Ns L mc ∧ ∀ x v, m.lookup x = some v → ∃ vc, mc x = some vc ∧ VR v vc
theorem FRM.keep {L : Addr} {m : Lm} {h h' : Heap} (x : FRM L m h) (k : ∀ ob, h.get? L = some ob → h'.get? L = some ob) : FRM L m h' :=
  let ⟨mc, n, r⟩ := x; ⟨mc, n.at' k, r⟩

structure ST (prog : Program) (w : World) (F : Fz) (L : Addr) (m : Lm) (hp : Hp) (h : Heap) : Prop where
  hr : HR prog w F hp h
  frm : FRM L m h
  fl : F L = none
  hl : hp L = none

def addF (F : Fz) (L : Addr) (o : Obj) : Fz := fun a => if a = L then some o else F a
theorem ST.down {F : Fz} {L : Addr} {m : Lm} {hp : Hp} {h : Heap} (x : ST prog w F L m hp h) : ∃ o, h.get? L = some o ∧ HR prog w (addF F L o) hp h ∧
    ∀ hp' h', HR prog w (addF F L o) hp' h' → ST prog w F L m hp' h' := by
  obtain ⟨mc, ⟨o, es, ep, e, n⟩, r⟩ := x.frm
  refine ⟨o, e, ⟨fun a ob q => ?_, fun a ob q => ⟨?_, (x.hr.ob a ob q).2⟩⟩, fun hp' h' y => ?_⟩
  · unfold addF at q
    split at q
    · rename_i z; cases q; rw [z]; exact e
    · exact x.hr.fz a ob q
  · unfold addF
    rw [if_neg (fun z => by rw [z, x.hl] at q; cases q)]; exact (x.hr.ob a ob q).1
  · have eL : h'.get? L = some o := y.fz L o (by simp [addF])
    refine ⟨⟨fun a ob q => y.fz a ob ?_, fun a ob q => ⟨?_, (y.ob a ob q).2⟩⟩, ⟨mc, ⟨o, es, ep, eL, n⟩, r⟩, x.fl, ?_⟩
    · unfold addF; rw [if_neg (fun z => by rw [z, x.fl] at q; cases q)]; exact q
    · have := (y.ob a ob q).1
      unfold addF at this
      split at this
      · cases this
      · exact this
    · cases q : hp' L with
      | none => rfl
      | some ob => have := (y.ob L ob q).1; simp [addF] at this

/-! ## judgements -/
def Stat (h₁ : Heap) (F : Fz) : Prop := ∀ a o, h₁.get? a = some o → F a = some o
theorem Stat.add {h₁ : Heap} {F : Fz} {L : Addr} {o : Obj} (x : Stat h₁ F) (hn : F L = none) : Stat h₁ (addF F L o) := fun a ob e => by
  unfold addF
  rw [if_neg (fun z => by rw [← z, x a ob e] at hn; cases hn)]; exact x a ob e
theorem Stat.into {h₁ h : Heap} {F : Fz} {hp : Hp} (x : Stat h₁ F) (y : HR prog w F hp h) : ∀ a o, h₁.get? a = some o → h.get? a = some o := fun a o e => y.fz a o (x a o e)

/-- a tree of values, no frame of its own -/
def CV (prog : Program) (w : World) (h₁ : Heap) (A : Around) (t : Sem Value) (hp : Hp) (Q : AV → Hp → Prop) : Prop :=
  ∀ F s, Stat h₁ F → HR prog w F hp s.heap → wpAny (model prog w) A t (fun v s' => ∃ av hp' h' tk', s' = { s with heap := h', toks := tk' } ∧ HR prog w F hp' h' ∧ VR av v ∧ Q av hp') (fun _ _ => False) s
/-- the same of nothing -/
def CU (prog : Program) (w : World) (h₁ : Heap) (A : Around) (t : Sem Unit) (hp : Hp) (Q : Hp → Prop) : Prop :=
  ∀ F s, Stat h₁ F → HR prog w F hp s.heap → wpAny (model prog w) A t (fun _ s' => ∃ hp' h' tk', s' = { s with heap := h', toks := tk' } ∧ HR prog w F hp' h' ∧ Q hp') (fun _ _ => False) s
/-- within a frame -/
def EV (prog : Program) (w : World) (h₁ : Heap) (A : Around) (L : Addr) (m : Lm) (t : Sem Value) (hp : Hp) (Q : AV → Hp → Prop) : Prop :=
  ∀ F s, Stat h₁ F → ST prog w F L m hp s.heap → wpAny (model prog w) A t (fun v s' => ∃ av hp' h' tk', s' = { s with heap := h', toks := tk' } ∧ ST prog w F L m hp' h' ∧ VR av v ∧ Q av hp') (fun _ _ => False) s
def EVs (prog : Program) (w : World) (h₁ : Heap) (A : Around) (L : Addr) (m : Lm) (t : Sem (List Value)) (hp : Hp) (Q : List AV → Hp → Prop) : Prop :=
  ∀ F s, Stat h₁ F → ST prog w F L m hp s.heap → wpAny (model prog w) A t (fun v s' => ∃ av hp' h' tk', s' = { s with heap := h', toks := tk' } ∧ ST prog w F L m hp' h' ∧ VRs av v ∧ Q av hp') (fun _ _ => False) s
def TV (prog : Program) (w : World) (h₁ : Heap) (A : Around) (L : Addr) (m : Lm) (t : Sem Bool) (hp : Hp) (Q : Bool → Hp → Prop) : Prop :=
  ∀ F s, Stat h₁ F → ST prog w F L m hp s.heap → wpAny (model prog w) A t (fun v s' => ∃ hp' h' tk', s' = { s with heap := h', toks := tk' } ∧ ST prog w F L m hp' h' ∧ Q v hp') (fun _ _ => False) s
/-- stores: a tree that may change the frame's names -/
def UV (prog : Program) (w : World) (h₁ : Heap) (A : Around) (L : Addr) (m : Lm) (t : Sem Unit) (hp : Hp) (Q : Lm → Hp → Prop) : Prop :=
  ∀ F s, Stat h₁ F → ST prog w F L m hp s.heap → wpAny (model prog w) A t (fun _ s' => ∃ m' hp' h' tk', s' = { s with heap := h', toks := tk' } ∧ ST prog w F L m' hp' h' ∧ Q m' hp') (fun _ _ => False) s
inductive AF where
  | next | brk | cont
  | ret (v : AV)
def FR : AF → Flow → Prop
  | .next, f => f = .next
  | .brk, f => f = .brk
  | .cont, f => f = .cont
  | .ret a, f => ∃ v, f = .ret v ∧ VR a v
def SV (prog : Program) (w : World) (h₁ : Heap) (A : Around) (L : Addr) (m : Lm) (t : Sem Flow) (hp : Hp) (Q : AF → Lm → Hp → Prop) : Prop :=
  ∀ F s, Stat h₁ F → ST prog w F L m hp s.heap → wpAny (model prog w) A t (fun f s' => ∃ af m' hp' h' tk', s' = { s with heap := h', toks := tk' } ∧ ST prog w F L m' hp' h' ∧ FR af f ∧ Q af m' hp') (fun _ _ => False) s

structure Room (A : Around) (n : Nat) : Prop where
  hh : A.handled = none
  hd : A.depth + n < recursionLimit
  hu : A.units + 16 * n < cLine

section
variable {h₁ : Heap} {A : Around} {L : Addr} {m : Lm} {hp : Hp}
theorem EV.of_CV {t : Sem Value} {Q : AV → Hp → Prop} (x : CV prog w h₁ A t hp Q) : EV prog w h₁ A L m t hp Q := fun F s hS hT => by
  obtain ⟨o, e, hr, back⟩ := hT.down
  refine wpAny_mono (x _ s (hS.add hT.fl) hr) (fun v s' ⟨av, hp', h', tk', e1, e2, e3, e4⟩ => ⟨av, hp', h', tk', e1, back _ _ e2, e3, e4⟩) fun _ _ z => z
theorem CV.mono {t : Sem Value} {Q Q' : AV → Hp → Prop} (x : CV prog w h₁ A t hp Q) (k : ∀ a hp', Q a hp' → Q' a hp') : CV prog w h₁ A t hp Q' := fun F s hS hT =>
  wpAny_mono (x F s hS hT) (fun v s' ⟨av, hp', h', tk', e1, e2, e3, e4⟩ => ⟨av, hp', h', tk', e1, e2, e3, k _ _ e4⟩) fun _ _ z => z
theorem CV.less {t : Sem Value} {Q Q' : AV → Hp → Prop} (x : CV prog w h₁ A t hp Q) (k : ∀ a hp', Q a hp' → ∃ hp'', (∀ b o, hp'' b = some o → hp' b = some o) ∧ Q' a hp'') : CV prog w h₁ A t hp Q' := fun F s hS hT =>
  wpAny_mono (x F s hS hT) (fun v s' ⟨av, hp', h', tk', e1, e2, e3, e4⟩ => let ⟨hp'', l, q⟩ := k _ _ e4; ⟨av, hp'', h', tk', e1, e2.less l, e3, q⟩) fun _ _ z => z
theorem EV.mono {t : Sem Value} {Q Q' : AV → Hp → Prop} (x : EV prog w h₁ A L m t hp Q) (k : ∀ a hp', Q a hp' → Q' a hp') : EV prog w h₁ A L m t hp Q' := fun F s hS hT =>
  wpAny_mono (x F s hS hT) (fun v s' ⟨av, hp', h', tk', e1, e2, e3, e4⟩ => ⟨av, hp', h', tk', e1, e2, e3, k _ _ e4⟩) fun _ _ z => z
theorem SV.mono {t : Sem Flow} {Q Q' : AF → Lm → Hp → Prop} (x : SV prog w h₁ A L m t hp Q) (k : ∀ f m' hp', Q f m' hp' → Q' f m' hp') : SV prog w h₁ A L m t hp Q' := fun F s hS hT =>
  wpAny_mono (x F s hS hT) (fun v s' ⟨av, m', hp', h', tk', e1, e2, e3, e4⟩ => ⟨av, m', hp', h', tk', e1, e2, e3, k _ _ _ e4⟩) fun _ _ z => z
/-- fewer names, less heap ahead of a step -/
theorem SV.pre {t : Sem Flow} {m₀ : Lm} {hp₀ : Hp} {Q : AF → Lm → Hp → Prop} (x : SV prog w h₁ A L m t hp Q) (km : ∀ y v, m.lookup y = some v → m₀.lookup y = some v) (kh : ∀ a o, hp a = some o → hp₀ a = some o) : SV prog w h₁ A L m₀ t hp₀ Q := fun F s hS hT =>
  x F s hS ⟨hT.hr.less kh, (let ⟨mc, n, r⟩ := hT.frm; ⟨mc, n, fun y v e => r y v (km y v e)⟩), hT.fl, by
    cases q : hp L with
    | none => rfl
    | some o => have := kh _ _ q; rw [hT.hl] at this; cases this⟩
end
end Mine
end
section
open PySem PySem.W PyProof.Rows PySem.Calls
namespace Mine

/-- what stands at the start, once for all -/
structure CX (prog : Program) (w : World) (K : Frag) (h₁ : Heap) : Prop where
  X : K.In h₁
  nolimit : h₁.NoLimit
  g : ∃ mg, h₁.Ns mainGlobals mg
  b : ∃ mb, h₁.Ns builtinsNs mb ∧ ∀ x : Str, x ≠ "__name__" → mb x = bootBuiltins x

section
variable {prog : Program} {w : World} {h₁ : Heap} {K : Frag} {A : Around} {L a : Addr} {m : Lm} {hp : Hp} {cn : Str} {cs : Scope} {ccd : Value} {cl : List (Str × Addr)}
  {x : Str} {pos : Pos} {v : AV} {Q : AV → Hp → Prop}

theorem EV_L (hv : m.lookup x = some v) (h : Q v hp) (hk : cs.kind = .function := by rfl) (hx : (envX cn cs L a ccd cl).kindOf x = some .local := by rfl) (hd : (x == ("__debug__" : Str)) = false := by decide) :
    EV prog w h₁ A L m (eval (.Name x pos) (envX cn cs L a ccd cl)) hp Q := fun F s hS hT => by
  obtain ⟨mc, hn, hm⟩ := hT.frm
  obtain ⟨vc, e1, e2⟩ := hm x v hv
  exact wpAny_Name (wpAny_loadName_local hk hx hn e1 ⟨v, hp, s.heap, s.toks, rfl, hT, e2, h⟩) hd
theorem EV_G (C : CX prog w K h₁) {vc : Value} (e : nsIn K mainGlobals x = some (some vc)) (hv : VR v vc) (h : Q v hp)
    (hk : cs.kind = .function := by rfl) (hx : (envX cn cs L a ccd cl).kindOf x = some .globalImplicit := by rfl) (hd : (x == ("__debug__" : Str)) = false := by decide) :
    EV prog w h₁ A L m (eval (.Name x pos) (envX cn cs L a ccd cl)) hp Q := fun F s hS hT => by
  obtain ⟨mg, G⟩ := C.g
  exact Name_function_global hk hx (loadGlobal_global (env := envX cn cs L a ccd cl) (G.keeps (hS.into hT.hr)) (mg_of C.X G e) ⟨v, hp, s.heap, s.toks, rfl, hT, hv, h⟩) hd
theorem EV_B (C : CX prog w K h₁) {vc : Value} (e : nsIn K mainGlobals x = some none) (hb : bootBuiltins x = some vc) (hn : x ≠ "__name__") (hv : VR v vc) (h : Q v hp)
    (hk : cs.kind = .function := by rfl) (hx : (envX cn cs L a ccd cl).kindOf x = some .globalImplicit := by rfl) (hd : (x == ("__debug__" : Str)) = false := by decide) :
    EV prog w h₁ A L m (eval (.Name x pos) (envX cn cs L a ccd cl)) hp Q := fun F s hS hT => by
  obtain ⟨mg, G⟩ := C.g
  obtain ⟨mb, B, B2⟩ := C.b
  exact Name_function_global hk hx (loadGlobal_builtin (env := envX cn cs L a ccd cl) (G.keeps (hS.into hT.hr)) (mg_none_of C.X G e) (B.keeps (hS.into hT.hr)) ((B2 x hn).trans hb) ⟨v, hp, s.heap, s.toks, rfl, hT, hv, h⟩) hd
theorem EV_C {c : Addr} (hc : cl.lookup x = some c) (hv : hp c = some (.cell v)) (h : Q v hp)
    (hk : cs.kind = .function := by rfl) (hx : (envX cn cs L a ccd cl).kindOf x = some .cell := by rfl) (hd : (x == ("__debug__" : Str)) = false := by decide) :
    EV prog w h₁ A L m (eval (.Name x pos) (envX cn cs L a ccd cl)) hp Q := fun F s hS hT => by
  obtain ⟨_, o, vc, e1, e2, e3⟩ := hT.hr.ob _ _ hv
  exact wpAny_Name (wpAny_loadName_cell hk hx hc ⟨o, e1, e2⟩ ⟨v, hp, s.heap, s.toks, rfl, hT, e3, h⟩) hd
theorem EV_F {c : Addr} (hc : cl.lookup x = some c) (hv : hp c = some (.cell v)) (h : Q v hp)
    (hk : cs.kind = .function := by rfl) (hx : (envX cn cs L a ccd cl).kindOf x = some .free := by rfl) (hd : (x == ("__debug__" : Str)) = false := by decide) (hn : (x == ("__classdict__" : Str)) = false := by decide) :
    EV prog w h₁ A L m (eval (.Name x pos) (envX cn cs L a ccd cl)) hp Q := fun F s hS hT => by
  obtain ⟨_, o, vc, e1, e2, e3⟩ := hT.hr.ob _ _ hv
  exact wpAny_Name (wpAny_loadName_free hk hx hc ⟨o, e1, e2⟩ ⟨v, hp, s.heap, s.toks, rfl, hT, e3, h⟩ hn) hd
end

section
variable {prog : Program} {w : World} {h₁ : Heap} {K : Frag} {A : Around} {L : Addr} {m : Lm} {hp : Hp} {env : Env} {pos : Pos} {k : Nat} {Q : AV → Hp → Prop}
theorem EV_int {i : Int} (h : Q (.int i) hp) : EV prog w h₁ A L m (eval (.Constant (.int i) k pos) env) hp Q := fun F s hS hT =>
  wpAny_Constant_int ⟨.int i, hp, s.heap, s.toks + 1, rfl, hT, ⟨_, rfl⟩, h⟩
theorem EV_none (h : Q .none hp) : EV prog w h₁ A L m (eval (.Constant .none k pos) env) hp Q := fun F s hS hT =>
  wpAny_Constant_none ⟨.none, hp, s.heap, s.toks, rfl, hT, rfl, h⟩
theorem EV_bool {b : Bool} (h : Q (.bool b) hp) : EV prog w h₁ A L m (eval (.Constant (.bool b) k pos) env) hp Q := fun F s hS hT =>
  wpAny_Constant_bool ⟨.bool b, hp, s.heap, s.toks, rfl, hT, rfl, h⟩

def OP2 (prog : Program) (w : World) (h₁ : Heap) (A : Around) (op : Operator) (a b : AV) (hp : Hp) (Q : AV → Hp → Prop) : Prop := ∀ va vb, VR a va → VR b vb → CV prog w h₁ A (binaryOp op va vb) hp Q
def IP2 (prog : Program) (w : World) (h₁ : Heap) (A : Around) (op : Operator) (a b : AV) (hp : Hp) (Q : AV → Hp → Prop) : Prop := ∀ va vb, VR a va → VR b vb → CV prog w h₁ A (inplaceOp op va vb) hp Q
def CM2 (prog : Program) (w : World) (h₁ : Heap) (A : Around) (op : CmpOp) (a b : AV) (hp : Hp) (Q : AV → Hp → Prop) : Prop := ∀ va vb, VR a va → VR b vb → CV prog w h₁ A (compareOp op va vb) hp Q
def UP1 (prog : Program) (w : World) (h₁ : Heap) (A : Around) (op : UnaryOp) (a : AV) (hp : Hp) (Q : AV → Hp → Prop) : Prop := ∀ va, VR a va → CV prog w h₁ A (unaryOp op va) hp Q

theorem EV_BinOp {l r : Expr} {op : Operator} (h : EV prog w h₁ A L m (eval l env) hp fun a hp₁ => EV prog w h₁ A L m (eval r env) hp₁ fun b hp₂ => OP2 prog w h₁ A op a b hp₂ Q) :
    EV prog w h₁ A L m (eval (.BinOp l op r pos) env) hp Q := fun F s hS hT =>
  wpAny_BinOp (wpAny_mono (h F s hS hT) (fun va s₁ ⟨a, hp₁, h', tk, e1, T1, R1, q1⟩ => by
    subst e1
    exact wpAny_mono (q1 F { s with heap := h', toks := tk } hS T1) (fun vb s₂ ⟨b, hp₂, h'', tk', e2, T2, R2, q2⟩ => by
      subst e2
      exact EV.of_CV (q2 va vb R1 R2) F { s with heap := h'', toks := tk' } hS T2) fun _ _ z => z) fun _ _ z => z)
theorem EV_Compare {l r : Expr} {op : CmpOp} (h : EV prog w h₁ A L m (eval l env) hp fun a hp₁ => EV prog w h₁ A L m (eval r env) hp₁ fun b hp₂ => CM2 prog w h₁ A op a b hp₂ Q)
    (hm : behindInMarks op r = false := by with_unfolding_all rfl) :
    EV prog w h₁ A L m (eval (.Compare l [op] [r] pos) env) hp Q := fun F s hS hT =>
  wpAny_Compare1 (wpAny_mono (h F s hS hT) (fun va s₁ ⟨a, hp₁, h', tk, e1, T1, R1, q1⟩ => by
    subst e1
    exact wpAny_mono (q1 F { s with heap := h', toks := tk } hS T1) (fun vb s₂ ⟨b, hp₂, h'', tk', e2, T2, R2, q2⟩ => by
      subst e2
      exact EV.of_CV (q2 va vb R1 R2) F { s with heap := h'', toks := tk' } hS T2) fun _ _ z => z) fun _ _ z => z) hm
theorem EV_UnaryOp {x : Expr} {op : UnaryOp} (h : EV prog w h₁ A L m (eval x env) hp fun a hp₁ => UP1 prog w h₁ A op a hp₁ Q) :
    EV prog w h₁ A L m (eval (.UnaryOp op x pos) env) hp Q := fun F s hS hT =>
  wpAny_UnaryOp (wpAny_mono (h F s hS hT) (fun va s₁ ⟨a, hp₁, h', tk, e1, T1, R1, q1⟩ => by
    subst e1
    exact EV.of_CV (q1 va R1) F { s with heap := h', toks := tk } hS T1) fun _ _ z => z)
theorem EV_IfExp {test body orelse : Expr} (h : TV prog w h₁ A L m (isTrue test env (eval test env)) hp fun b hp₁ => (b = true → EV prog w h₁ A L m (eval body env) hp₁ Q) ∧ (b = false → EV prog w h₁ A L m (eval orelse env) hp₁ Q)) :
    EV prog w h₁ A L m (eval (.IfExp test body orelse pos) env) hp Q := fun F s hS hT =>
  wpAny_IfExp (wpAny_mono (h F s hS hT) (fun b s₁ ⟨hp₁, h', tk, e1, T1, q1⟩ => by
    subst e1
    cases b
    · exact q1.2 rfl F { s with heap := h', toks := tk } hS T1
    · exact q1.1 rfl F { s with heap := h', toks := tk } hS T1) fun _ _ z => z)

theorem TV_Compare {l r : Expr} {op : CmpOp} {whole : Sem Value} {R : Bool → Hp → Prop} (h : EV prog w h₁ A L m (eval l env) hp fun a hp₁ => EV prog w h₁ A L m (eval r env) hp₁ fun b hp₂ => CM2 prog w h₁ A op a b hp₂ fun c hp₃ => ∃ d, c = .bool d ∧ R d hp₃)
    (hm : behindInMarks op r = false := by with_unfolding_all rfl) :
    TV prog w h₁ A L m (isTrue (.Compare l [op] [r] pos) env whole) hp R := fun F s hS hT =>
  wpAny_isTrue_Compare1 (wpAny_mono (h F s hS hT) (fun va s₁ ⟨a, hp₁, h', tk, e1, T1, R1, q1⟩ => by
    subst e1
    exact wpAny_mono (q1 F { s with heap := h', toks := tk } hS T1) (fun vb s₂ ⟨b, hp₂, h'', tk', e2, T2, R2, q2⟩ => by
      subst e2
      refine wpAny_mono (EV.of_CV (q2 va vb R1 R2) F { s with heap := h'', toks := tk' } hS T2) (fun vc s₃ ⟨c, hp₃, h3, tk3, e3, T3, R3, d, ed, q3⟩ => ?_) fun _ _ z => z
      subst e3 ed
      cases R3
      exact wpAny_truthy_bool ⟨hp₃, h3, tk3, rfl, T3, q3⟩) fun _ _ z => z) fun _ _ z => z) hm
def AllT (prog : Program) (w : World) (h₁ : Heap) (A : Around) (L : Addr) (m : Lm) (op : BoolOp) (es : List Expr) (env : Env) (hp : Hp) (R : Bool → Hp → Prop) : Prop := TV prog w h₁ A L m (allTrue op es env) hp R
theorem TV_BoolOp {op : BoolOp} {values : List Expr} {whole : Sem Value} {R : Bool → Hp → Prop} (h : AllT prog w h₁ A L m op values env hp R) : TV prog w h₁ A L m (isTrue (.BoolOp op values pos) env whole) hp R :=
  fun F s hS hT => wpAny_isTrue_BoolOp (h F s hS hT)
theorem And_nil {R : Bool → Hp → Prop} (h : R true hp) : AllT prog w h₁ A L m .And [] env hp R := fun F s hS hT => wpAny_allTrue_And_nil ⟨hp, s.heap, s.toks, rfl, hT, h⟩
theorem Or_nil {R : Bool → Hp → Prop} (h : R false hp) : AllT prog w h₁ A L m .Or [] env hp R := fun F s hS hT => wpAny_allTrue_Or_nil ⟨hp, s.heap, s.toks, rfl, hT, h⟩
theorem And_cons {x : Expr} {rest : List Expr} {R : Bool → Hp → Prop} (h : TV prog w h₁ A L m (isTrue x env (eval x env)) hp fun b hp₁ => (b = true → AllT prog w h₁ A L m .And rest env hp₁ R) ∧ (b = false → R false hp₁)) : AllT prog w h₁ A L m .And (x :: rest) env hp R := fun F s hS hT =>
  wpAny_allTrue_And_cons (wpAny_mono (h F s hS hT) (fun b s₁ ⟨hp₁, h', tk, e1, T1, q1⟩ => by
    subst e1
    cases b
    · exact ⟨hp₁, h', tk, rfl, T1, q1.2 rfl⟩
    · exact q1.1 rfl F { s with heap := h', toks := tk } hS T1) fun _ _ z => z)
theorem Or_cons {x : Expr} {rest : List Expr} {R : Bool → Hp → Prop} (h : TV prog w h₁ A L m (isTrue x env (eval x env)) hp fun b hp₁ => (b = true → R true hp₁) ∧ (b = false → AllT prog w h₁ A L m .Or rest env hp₁ R)) : AllT prog w h₁ A L m .Or (x :: rest) env hp R := fun F s hS hT =>
  wpAny_allTrue_Or_cons (wpAny_mono (h F s hS hT) (fun b s₁ ⟨hp₁, h', tk, e1, T1, q1⟩ => by
    subst e1
    cases b
    · exact q1.2 rfl F { s with heap := h', toks := tk } hS T1
    · exact ⟨hp₁, h', tk, rfl, T1, q1.1 rfl⟩) fun _ _ z => z)

/-! ints -/
theorem cp_int {F : Fz} {s : Shared} {i : Int} {t k : Nat} (hT : HR prog w F hp s.heap) (h : Q (.int i) hp) : ∃ av hp' h' tk', ({ s with toks := k } : Shared) = { s with heap := h', toks := tk' } ∧ HR prog w F hp' h' ∧ VR av (.int i t) ∧ Q av hp' :=
  ⟨.int i, hp, s.heap, k, rfl, hT, ⟨t, rfl⟩, h⟩
theorem cp_bool {F : Fz} {s : Shared} {b : Bool} (hT : HR prog w F hp s.heap) (h : Q (.bool b) hp) : ∃ av hp' h' tk', s = { s with heap := h', toks := tk' } ∧ HR prog w F hp' h' ∧ VR av (.bool b) ∧ Q av hp' :=
  ⟨.bool b, hp, s.heap, s.toks, rfl, hT, rfl, h⟩
theorem op_add {x y : Int} (h : Q (.int (x + y)) hp) : OP2 prog w h₁ A .Add (.int x) (.int y) hp Q := fun _ _ ⟨_, e1⟩ ⟨_, e2⟩ F s hS hT => by subst e1 e2; exact add_int (cp_int hT h)
theorem op_sub {x y : Int} (h : Q (.int (x - y)) hp) : OP2 prog w h₁ A .Sub (.int x) (.int y) hp Q := fun _ _ ⟨_, e1⟩ ⟨_, e2⟩ F s hS hT => by subst e1 e2; exact sub_int (cp_int hT h)
theorem op_mul {x y : Int} (hy : x.natAbs < 2 ^ 60 ∨ y.natAbs < 2 ^ 60) (h : Q (.int (x * y)) hp) : OP2 prog w h₁ A .Mult (.int x) (.int y) hp Q := fun _ _ ⟨_, e1⟩ ⟨_, e2⟩ F s hS hT => by
  subst e1 e2
  refine mul_int (cp_int hT h) ?_
  rcases hy with hy | hy
  · exact PySem.IntMulOk.of_left (PySem.intBits_le_64 (by omega) (by omega))
  · exact PySem.IntMulOk.of_right (PySem.intBits_le_64 (by omega) (by omega))
theorem op_fdiv {x y : Int} (hy : y ≠ 0) (hs : y.natAbs < 1073741824) (h : Q (.int (x.fdiv y)) hp) : OP2 prog w h₁ A .FloorDiv (.int x) (.int y) hp Q := fun _ _ ⟨_, e1⟩ ⟨_, e2⟩ F s hS hT => by
  subst e1 e2; exact floordiv_int hy (cp_int hT h) (.inl (PyProof.noPylong_small hs))
theorem op_fmod {x y : Int} (hy : y ≠ 0) (h : Q (.int (x.fmod y)) hp) : OP2 prog w h₁ A .Mod (.int x) (.int y) hp Q := fun _ _ ⟨_, e1⟩ ⟨_, e2⟩ F s hS hT => by
  subst e1 e2; exact mod_int' hy (cp_int hT h)
theorem op_shl {x y : Int} (h0 : 0 ≤ y) (h1 : y ≤ 1000000) (hx : x.natAbs < 2 ^ 64) (h : Q (.int (x * 2 ^ y.toNat)) hp) : OP2 prog w h₁ A .LShift (.int x) (.int y) hp Q := fun _ _ ⟨_, e1⟩ ⟨_, e2⟩ F s hS hT => by
  subst e1 e2; exact lshift_int_small h0 h1 hx (cp_int hT h)
theorem op_shr {x y : Int} (h0 : 0 ≤ y) (h : Q (.int (x.fdiv (2 ^ y.toNat))) hp) : OP2 prog w h₁ A .RShift (.int x) (.int y) hp Q := fun _ _ ⟨_, e1⟩ ⟨_, e2⟩ F s hS hT => by
  subst e1 e2; exact rshift_int h0 (cp_int hT h)
theorem op_and {x y : Int} (h : Q (.int (Builtin.bitAnd x y)) hp) : OP2 prog w h₁ A .BitAnd (.int x) (.int y) hp Q := fun _ _ ⟨_, e1⟩ ⟨_, e2⟩ F s hS hT => by
  subst e1 e2; exact and_int (cp_int hT h)
theorem op_or {x y : Int} (h : Q (.int (Builtin.bitOr x y)) hp) : OP2 prog w h₁ A .BitOr (.int x) (.int y) hp Q := fun _ _ ⟨_, e1⟩ ⟨_, e2⟩ F s hS hT => by
  subst e1 e2; exact or_int (cp_int hT h)
theorem op_pow {x y : Int} (h0 : 0 ≤ y) (h1 : y ≤ 1000000) (hx : x.natAbs < 2 ^ 64) (h : Q (.int (x ^ y.toNat)) hp) : OP2 prog w h₁ A .Pow (.int x) (.int y) hp Q := fun _ _ ⟨_, e1⟩ ⟨_, e2⟩ F s hS hT => by
  subst e1 e2; exact pow_int_small h0 h1 hx (cp_int hT h)
theorem ip_add {x y : Int} (h : Q (.int (x + y)) hp) : IP2 prog w h₁ A .Add (.int x) (.int y) hp Q := fun _ _ ⟨_, e1⟩ ⟨_, e2⟩ F s hS hT => by subst e1 e2; exact PyProof.Rows.iadd_int (cp_int hT h)
theorem ip_sub {x y : Int} (h : Q (.int (x - y)) hp) : IP2 prog w h₁ A .Sub (.int x) (.int y) hp Q := fun _ _ ⟨_, e1⟩ ⟨_, e2⟩ F s hS hT => by subst e1 e2; exact PyProof.Rows.isub_int (cp_int hT h)
theorem ip_fmod {x y : Int} (hy : y ≠ 0) (h : Q (.int (x.fmod y)) hp) : IP2 prog w h₁ A .Mod (.int x) (.int y) hp Q := fun _ _ ⟨_, e1⟩ ⟨_, e2⟩ F s hS hT => by subst e1 e2; exact PyProof.Rows.imod_int hy (cp_int hT h)
theorem ip_shr {x y : Int} (h0 : 0 ≤ y) (h : Q (.int (x.fdiv (2 ^ y.toNat))) hp) : IP2 prog w h₁ A .RShift (.int x) (.int y) hp Q := fun _ _ ⟨_, e1⟩ ⟨_, e2⟩ F s hS hT => by
  subst e1 e2; exact PyProof.Rows.irshift_int h0 (cp_int hT h)
theorem ip_or {x y : Int} (h : Q (.int (Builtin.bitOr x y)) hp) : IP2 prog w h₁ A .BitOr (.int x) (.int y) hp Q := fun _ _ ⟨_, e1⟩ ⟨_, e2⟩ F s hS hT => by
  subst e1 e2; exact PyProof.Rows.ior_int (cp_int hT h)
theorem cm_lt {x y : Int} (h : Q (.bool (decide (x < y))) hp) : CM2 prog w h₁ A .Lt (.int x) (.int y) hp Q := fun _ _ ⟨_, e1⟩ ⟨_, e2⟩ F s hS hT => by subst e1 e2; exact PyProof.Rows.lt_int (cp_bool hT h)
theorem cm_le {x y : Int} (h : Q (.bool (decide (x ≤ y))) hp) : CM2 prog w h₁ A .LtE (.int x) (.int y) hp Q := fun _ _ ⟨_, e1⟩ ⟨_, e2⟩ F s hS hT => by subst e1 e2; exact PyProof.Rows.le_int (cp_bool hT h)
theorem cm_gt {x y : Int} (h : Q (.bool (decide (x > y))) hp) : CM2 prog w h₁ A .Gt (.int x) (.int y) hp Q := fun _ _ ⟨_, e1⟩ ⟨_, e2⟩ F s hS hT => by subst e1 e2; exact PyProof.Rows.gt_int (cp_bool hT h)
theorem cm_ge {x y : Int} (h : Q (.bool (decide (x ≥ y))) hp) : CM2 prog w h₁ A .GtE (.int x) (.int y) hp Q := fun _ _ ⟨_, e1⟩ ⟨_, e2⟩ F s hS hT => by subst e1 e2; exact PyProof.Rows.ge_int (cp_bool hT h)
theorem cm_eq {x y : Int} (h : Q (.bool (decide (x = y))) hp) : CM2 prog w h₁ A .Eq (.int x) (.int y) hp Q := fun _ _ ⟨_, e1⟩ ⟨_, e2⟩ F s hS hT => by
  subst e1 e2; refine PyProof.Rows.eq_int (cp_bool hT ?_); rw [show (x == y) = decide (x = y) from by by_cases e : x = y <;> simp [e]]; exact h
theorem cm_ne {x y : Int} (h : Q (.bool (decide (x ≠ y))) hp) : CM2 prog w h₁ A .NotEq (.int x) (.int y) hp Q := fun _ _ ⟨_, e1⟩ ⟨_, e2⟩ F s hS hT => by
  subst e1 e2; refine PyProof.Rows.ne_int (cp_bool hT ?_); rw [show (x != y) = decide (x ≠ y) from by by_cases e : x = y <;> simp [e]]; exact h
theorem cm_is_none {v : AV} (h : Q (.bool (match v with | .none => true | _ => false)) hp) : CM2 prog w h₁ A .Is v .none hp Q := fun va vb e1 e2 F s hS hT => by
  cases e2
  refine is_none ⟨_, hp, s.heap, s.toks, rfl, hT, ?_, h⟩
  cases v with
  | int i => obtain ⟨t, rfl⟩ := e1; rfl
  | _ => cases e1; rfl
theorem up_neg {x : Int} (h : Q (.int (-x)) hp) : UP1 prog w h₁ A .USub (.int x) hp Q := fun _ ⟨_, e1⟩ F s hS hT => by subst e1; exact PyProof.Rows.neg_int (cp_int hT h)
end
end Mine
end
section
open PySem PySem.W PyProof.Rows PySem.Calls
namespace Mine

section
variable {prog : Program} {w : World} {h₁ : Heap} {K : Frag} {A : Around} {L : Addr} {m : Lm} {hp : Hp} {env : Env} {pos : Pos} {k : Nat} {Q : AV → Hp → Prop}

/-! lists of arguments -/
theorem EVs_nil {R : List AV → Hp → Prop} (h : R [] hp) : EVs prog w h₁ A L m (spliced (backTo pos (starEach [] env))) hp R := fun F s hS hT =>
  args_nil ⟨[], hp, s.heap, s.toks, rfl, hT, .nil, h⟩
theorem EVs_cons {e : Expr} {rest : List Expr} {R : List AV → Hp → Prop} (h : EV prog w h₁ A L m (eval e env) hp fun a hp₁ => EVs prog w h₁ A L m (spliced (backTo pos (starEach rest env))) hp₁ fun as hp₂ => R (a :: as) hp₂)
    (he : starEach (e :: rest) env = (false, eval e env) :: starEach rest env := by rfl) :
    EVs prog w h₁ A L m (spliced (backTo pos (starEach (e :: rest) env))) hp R := fun F s hS hT =>
  args_cons (wpAny_mono (h F s hS hT) (fun va s₁ ⟨a, hp₁, h', tk, e1, T1, R1, q1⟩ => by
    subst e1
    exact wpAny_mono (q1 F { s with heap := h', toks := tk } hS T1) (fun vb s₂ ⟨b, hp₂, h'', tk', e2, T2, R2, q2⟩ => by
      subst e2
      exact ⟨a :: b, hp₂, h'', tk', rfl, T2, .cons R1 R2, q2⟩) fun _ _ z => z) fun _ _ z => z) he

theorem push_get {h : Heap} {o : Obj} : ∀ b ob, h.get? b = some ob → (h.push o).get? b = some ob := fun b ob e => Heap.get?_push_of_some _ e

/-! displays -/
theorem CV_newList {vs : List Value} {as : List AV} (r : VRs as vs) (h : ∀ b, hp b = none → Q (.ref b) (up hp b (.list as))) (hsz : as.length ≤ sizeLine) :
    CV prog w h₁ A (newList vs) hp Q := fun F s hS hT =>
  wpAny_newObj_type ⟨.ref s.heap.objs.size, _, _, s.toks, rfl, hT.new (o := .list as) (Nat.le_refl _) push_get ⟨vs, ⟨0, Heap.get?_push_size _ rfl⟩, r⟩, rfl, h _ (hT.fresh (Nat.le_refl _)).1⟩ (by show vs.toArray.size ≤ sizeLine; rw [List.size_toArray, ← r.length]; exact hsz)
theorem CV_newTuple {vs : List Value} {as : List AV} (r : VRs as vs) (h : ∀ b, hp b = none → Q (.ref b) (up hp b (.tup as))) (hsz : as.length ≤ sizeLine) :
    CV prog w h₁ A (newTuple vs) hp Q := fun F s hS hT =>
  wpAny_newObj_type ⟨.ref s.heap.objs.size, _, _, s.toks, rfl, hT.new (o := .tup as) (Nat.le_refl _) push_get ⟨vs, ⟨_, Heap.get?_push_size _ rfl, rfl, 0, rfl⟩, r⟩, rfl, h _ (hT.fresh (Nat.le_refl _)).1⟩ (by show vs.toArray.size ≤ sizeLine; rw [List.size_toArray, ← r.length]; exact hsz)
theorem EV_List {elts : List Expr} (h : EVs prog w h₁ A L m (spliced (backTo pos (starEach elts env))) hp fun as hp₁ => as.length ≤ 1000 ∧ ∀ b, hp₁ b = none → Q (.ref b) (up hp₁ b (.list as))) :
    EV prog w h₁ A L m (eval (.List elts pos) env) hp Q := fun F s hS hT =>
  List_ (wpAny_mono (h F s hS hT) (fun va s₁ ⟨a, hp₁, h', tk, e1, T1, R1, q0, q1⟩ => by
    subst e1
    exact EV.of_CV (CV_newList R1 q1 (Nat.le_trans q0 (by decide))) F { s with heap := h', toks := tk } hS T1) fun _ _ z => z)
theorem EV_Tuple {elts : List Expr} (h : EVs prog w h₁ A L m (spliced (backTo pos (starEach elts env))) hp fun as hp₁ => as.length ≤ 1000 ∧ ∀ b, hp₁ b = none → Q (.ref b) (up hp₁ b (.tup as))) :
    EV prog w h₁ A L m (eval (.Tuple elts k pos) env) hp Q := fun F s hS hT =>
  Tuple_ (wpAny_mono (h F s hS hT) (fun va s₁ ⟨a, hp₁, h', tk, e1, T1, R1, q0, q1⟩ => by
    subst e1
    exact EV.of_CV (CV_newTuple R1 q1 (Nat.le_trans q0 (by decide))) F { s with heap := h', toks := tk } hS T1) fun _ _ z => z)

/-! items -/
def SUB (prog : Program) (w : World) (h₁ : Heap) (A : Around) (value slice : Expr) (o i : AV) (hp : Hp) (Q : AV → Hp → Prop) : Prop := ∀ vo vi, VR o vo → VR i vi → CV prog w h₁ A (subscriptTail value slice vo vi) hp Q
theorem EV_Sub {value slice : Expr} (h : EV prog w h₁ A L m (eval value env) hp fun a hp₁ => EV prog w h₁ A L m (eval slice env) hp₁ fun b hp₂ => SUB prog w h₁ A value slice a b hp₂ Q) :
    EV prog w h₁ A L m (eval (.Subscript value slice pos) env) hp Q := fun F s hS hT =>
  Subscript_ (wpAny_mono (h F s hS hT) (fun va s₁ ⟨a, hp₁, h', tk, e1, T1, R1, q1⟩ => by
    subst e1
    exact wpAny_mono (q1 F { s with heap := h', toks := tk } hS T1) (fun vb s₂ ⟨b, hp₂, h'', tk', e2, T2, R2, q2⟩ => by
      subst e2
      exact EV.of_CV (q2 va vb R1 R2) F { s with heap := h'', toks := tk' } hS T2) fun _ _ z => z) fun _ _ z => z)

theorem sub_list {value slice : Expr} {a : Addr} {xs : List AV} {i : Int} {v : AV} (hl : hp a = some (.list xs)) (h0 : 0 ≤ i) (hi : i < 2 ^ 62) (hx : xs[i.toNat]? = some v) (h : Q v hp)
    (hs : ∀ u, subscripted slice false (.ref a) (.int i u) = operate [.ref a, .int i u] (getItem (.ref a) (.int i u)) := by intro _; with_unfolding_all rfl) : SUB prog w h₁ A value slice (.ref a) (.int i) hp Q := fun vo vi e1 ⟨u, e2⟩ F s hS hT => by
  cases e1; subst e2
  obtain ⟨_, vs, pl, r⟩ := hT.ob _ _ hl
  obtain ⟨vc, g1, g2⟩ := r.get hx
  exact tail_any pl.isList.typeIs slot_list_getitem.lookup (wpAny_getItem_list pl.isList h0 (by omega) (by simpa using g1) ⟨v, hp, s.heap, s.toks, rfl, hT, g2, h⟩) (hs u)
theorem sub_last {value slice : Expr} {a : Addr} {xs : List AV} {v : AV} (hl : hp a = some (.list xs)) (hx : xs.getLast? = some v) (h : Q v hp)
    (hs : ∀ u, subscripted slice false (.ref a) (.int (-1) u) = operate [.ref a, .int (-1) u] (getItem (.ref a) (.int (-1) u)) := by intro _; with_unfolding_all rfl) : SUB prog w h₁ A value slice (.ref a) (.int (-1)) hp Q := fun vo vi e1 ⟨u, e2⟩ F s hS hT => by
  cases e1; subst e2
  obtain ⟨_, vs, pl, r⟩ := hT.ob _ _ hl
  rw [List.getLast?_eq_getElem?] at hx
  obtain ⟨vc, g1, g2⟩ := r.get hx
  have hlen : xs.length = vs.length := r.length
  have hpos : 0 < vs.length := by
    have := (List.getElem?_eq_some_iff.mp g1).1
    omega
  refine tail_any pl.isList.typeIs slot_list_getitem.lookup (wpAny_getItem_list_neg (x := vc) pl.isList (by decide) (by simp; omega) (by decide) ?_ ⟨v, hp, s.heap, s.toks, rfl, hT, g2, h⟩) (hs u)
  rw [hlen] at g1
  have : ((-1 : Int) + (vs.toArray.size : Int)).toNat = vs.length - 1 := by simp; omega
  rw [this]
  simpa using g1
theorem sub_tup {value slice : Expr} {a : Addr} {xs : List AV} {i : Nat} {v : AV} (hl : hp a = some (.tup xs)) (hi : i < 1000) (hx : xs[i]? = some v) (h : Q v hp)
    (hs : ∀ u, subscripted slice false (.ref a) (.int (i : Int) u) = operate [.ref a, .int (i : Int) u] (getItem (.ref a) (.int (i : Int) u)) := by intro _; with_unfolding_all rfl) : SUB prog w h₁ A value slice (.ref a) (.int (i : Int)) hp Q := fun vo vi e1 ⟨u, e2⟩ F s hS hT => by
  cases e1; subst e2
  obtain ⟨_, vs, pl, r⟩ := hT.ob _ _ hl
  obtain ⟨vc, g1, g2⟩ := r.get hx
  refine item_tupleT (j := i) pl (by omega) (by omega) ?_ g1 ⟨v, hp, s.heap, s.toks, rfl, hT, g2, h⟩ (hs u)
  have := (List.getElem?_eq_some_iff.mp g1).1
  unfold seqIndex?
  simp
  omega
theorem sub_dict {value slice : Expr} {a : Addr} {f : Int → Option AV} {n : Nat} {i : Int} {v : AV} (hl : hp a = some (.dict f n)) (hx : f i = some v) (h : Q v hp)
    (hs : ∀ u, subscripted slice false (.ref a) (.int i u) = operate [.ref a, .int i u] (getItem (.ref a) (.int i u)) := by intro _; with_unfolding_all rfl) : SUB prog w h₁ A value slice (.ref a) (.int i) hp Q := fun vo vi e1 ⟨u, e2⟩ F s hS hT => by
  cases e1; subst e2
  obtain ⟨_, cv, pl, hsm, hn, r1, r2⟩ := hT.ob _ _ hl
  obtain ⟨vc, g1, g2⟩ := r2 _ _ hx
  exact tail_any pl.mapOf.typeIs slot_dict_getitem.lookup (wpAny_getItem_of (k := i) (by simp [intKind, Value.isInt]) pl.mapOf g1 ⟨v, hp, s.heap, s.toks + 1, rfl, hT, g2, h⟩) (hs u)

/-! membership in a dict -/
theorem cm_in {a : Addr} {f : Int → Option AV} {n : Nat} {i : Int} (hl : hp a = some (.dict f n)) (h : Q (.bool (f i).isSome) hp) : CM2 prog w h₁ A .In (.int i) (.ref a) hp Q := fun vo vi ⟨u, e2⟩ e1 F s hS hT => by
  cases e1; subst e2
  obtain ⟨_, cv, pl, hsm, hn, r1, r2⟩ := hT.ob _ _ hl
  have e : (valueAt cv i).isSome = (f i).isSome := by
    cases q : f i with
    | none => rw [r1 _ q]; rfl
    | some x => obtain ⟨y, g, _⟩ := r2 _ _ q; rw [g]; rfl
  exact wpAny_in_of (k := i) (by simp [intKind, Value.isInt]) hsm pl.mapOf ⟨.bool (f i).isSome, hp, s.heap, s.toks + 1, rfl, hT, by rw [e]; rfl, h⟩
theorem cm_notin {a : Addr} {f : Int → Option AV} {n : Nat} {i : Int} (hl : hp a = some (.dict f n)) (h : Q (.bool (!(f i).isSome)) hp) : CM2 prog w h₁ A .NotIn (.int i) (.ref a) hp Q := fun vo vi ⟨u, e2⟩ e1 F s hS hT => by
  cases e1; subst e2
  obtain ⟨_, cv, pl, hsm, hn, r1, r2⟩ := hT.ob _ _ hl
  have e : (valueAt cv i).isSome = (f i).isSome := by
    cases q : f i with
    | none => rw [r1 _ q]; rfl
    | some x => obtain ⟨y, g, _⟩ := r2 _ _ q; rw [g]; rfl
  exact wpAny_notIn_of (k := i) (by simp [intKind, Value.isInt]) hsm pl.mapOf ⟨.bool (!(f i).isSome), hp, s.heap, s.toks + 1, rfl, hT, by rw [e]; rfl, h⟩

/-! slices -/
def PT (prog : Program) (w : World) (h₁ : Heap) (A : Around) (L : Addr) (m : Lm) (e : Option Expr) (env : Env) (hp : Hp) (R : Option Int → Hp → Prop) : Prop :=
  ∀ F s, Stat h₁ F → ST prog w F L m hp s.heap → wpAny (model prog w) A (evalPart e env) (fun v s' => ∃ i hp' h' tk', s' = { s with heap := h', toks := tk' } ∧ ST prog w F L m hp' h' ∧ IsPart v i ∧ R i hp') (fun _ _ => False) s
theorem PT_none {R : Option Int → Hp → Prop} (h : R none hp) : PT prog w h₁ A L m none env hp R := fun F s hS hT => by
  rw [evalPart_none]; exact wpAny_pure ⟨none, hp, s.heap, s.toks, rfl, hT, .none, h⟩
theorem PT_some {e : Expr} {R : Option Int → Hp → Prop} (h : EV prog w h₁ A L m (eval e env) hp fun a hp₁ => ∃ i : Int, a = .int i ∧ R (some i) hp₁)
    (he : evalPart (some e) env = eval e env := by rfl) : PT prog w h₁ A L m (some e) env hp R := fun F s hS hT => by
  rw [he]
  refine wpAny_mono (h F s hS hT) (fun va s₁ ⟨a, hp₁, h', tk, e1, T1, R1, i, e2, q1⟩ => ?_) fun _ _ z => z
  subst e1 e2
  obtain ⟨t, rfl⟩ := R1
  exact ⟨some i, hp₁, h', tk, rfl, T1, .int i t, q1⟩

theorem EV_Slice {value : Expr} {lower upper : Option Expr} {p : Pos}
    (h : EV prog w h₁ A L m (eval value env) hp fun a hp₁ => PT prog w h₁ A L m lower env hp₁ fun lo hp₂ => PT prog w h₁ A L m upper env hp₂ fun hi hp₃ =>
      ∃ l xs ys, a = .ref l ∧ hp₃ l = some (.list xs) ∧ xs.length ≤ 100000 ∧ (∀ vs : List Value, VRs xs vs → VRs ys (slicePick vs.toArray lo hi none).toList) ∧ ∀ b, hp₃ b = none → Q (.ref b) (up hp₃ b (.list ys)))
    (ht : ∀ o r, letTemporaryGo value o r = pure () := by intro _ _; rfl) :
    EV prog w h₁ A L m (eval (.Subscript value (.Slice lower upper none p) pos) env) hp Q := fun F s hS hT => by
  refine wpAny_Subscript_list_slice (wpAny_mono (h F s hS hT) (fun va s₁ ⟨a, hp₁, h', tk, e1, T1, R1, q1⟩ => ?_) fun _ _ z => z) ht
  subst e1
  refine wpAny_mono (q1 F { s with heap := h', toks := tk } hS T1) (fun vb s₂ ⟨lo, hp₂, h'', tk', e2, T2, R2, q2⟩ => ?_) fun _ _ z => z
  subst e2
  refine wpAny_mono (q2 F { s with heap := h'', toks := tk' } hS T2) (fun vc s₃ ⟨hi, hp₃, h3, tk3, e3, T3, R3, q3⟩ => ?_) fun _ _ z => z
  subst e3
  obtain ⟨l, xs, ys, ea, hl, hlen, hy, hQ⟩ := q3
  subst ea
  cases R1
  obtain ⟨_, vs, pl, r⟩ := T3.hr.ob _ _ hl
  refine ⟨l, vs.toArray, lo, hi, rfl, pl.isList, by rw [List.size_toArray, ← r.length]; exact Nat.le_trans hlen (by decide), R2, R3, ?_⟩
  have g0 : (h3.push { cls := .type "slice", data := .fields #[vb, vc, .none] }).objs.size = h3.objs.size + 1 := Heap.size_push ..
  have key : ∀ b o, h3.get? b = some o → ((h3.push { cls := .type "slice", data := .fields #[vb, vc, .none] }).push { cls := .type "list", data := .seq (slicePick vs.toArray lo hi none) }).get? b = some o :=
    fun b o e => Heap.get?_push_of_some _ (Heap.get?_push_of_some _ e)
  refine ⟨.ref (h3.objs.size + 1), up hp₃ (h3.objs.size + 1) (.list ys), _, tk3, rfl, ⟨T3.hr.new (Nat.le_succ _) key ⟨(slicePick vs.toArray lo hi none).toList, ⟨0, ?_⟩, hy _ r⟩, T3.frm.keep fun _ e => key _ _ e, T3.fl, ?_⟩, rfl, hQ _ (T3.hr.fresh (Nat.le_succ _)).1⟩
  · have := Heap.get?_push_size (h3.push { cls := .type "slice", data := .fields #[vb, vc, .none] }) (o := { cls := .type "list", data := .seq (slicePick vs.toArray lo hi none) }) rfl
    rw [g0] at this
    simpa using this
  · obtain ⟨_, ⟨oL, _, _, eL, _⟩, _⟩ := T3.frm
    rw [up_ne (Nat.ne_of_lt (Nat.lt_succ_of_lt (Heap.lt_size eL)))]; exact T3.hl

/-! calls -/
def CL (prog : Program) (w : World) (h₁ : Heap) (A : Around) (f : AV) (as : List AV) (hp : Hp) (Q : AV → Hp → Prop) : Prop := ∀ vf vs, VR f vf → VRs as vs → CV prog w h₁ A (call vf vs) hp Q
def CW (prog : Program) (w : World) (h₁ : Heap) (A : Around) (L : Addr) (m : Lm) (env : Env) (pos : Pos) (f : AV) (args : List Expr) (hp : Hp) (Q : AV → Hp → Prop) : Prop :=
  ∀ vf, VR f vf → EV prog w h₁ A L m (callWith pos vf [] (backTo pos (starEach args env)) []) hp Q
theorem EV_Call {func : Expr} {args : List Expr} (h : EV prog w h₁ A L m (eval func env) hp fun f hp₁ => CW prog w h₁ A L m env pos f args hp₁ Q)
    (he : eval (.Call func args [] pos) env = (do callWith pos (← eval func env) [] (backTo pos (starEach args env)) (backToKw pos (keywordEach [] env))) := by rfl) :
    EV prog w h₁ A L m (eval (.Call func args [] pos) env) hp Q := fun F s hS hT =>
  Call_ (wpAny_mono (h F s hS hT) (fun va s₁ ⟨a, hp₁, h', tk, e1, T1, R1, q1⟩ => by
    subst e1
    exact q1 _ R1 F { s with heap := h', toks := tk } hS T1) fun _ _ z => z) he

theorem CW_bi {id : String} {e : Expr} {rest : List Expr} (h : EVs prog w h₁ A L m (spliced (backTo pos (starEach (e :: rest) env))) hp fun as hp₁ => CL prog w h₁ A (.bi id) as hp₁ Q)
    (he : starEach (e :: rest) env = (false, eval e env) :: starEach rest env := by rfl) (hplain : (backTo pos (starEach rest env)).any (·.1) = false := by rfl) :
    CW prog w h₁ A L m env pos (.bi id) (e :: rest) hp Q := fun vf e0 F s hS hT => by
  cases e0
  exact PyProof.Rows.callWith_builtin1 (wpAny_mono (h F s hS hT) (fun va s₁ ⟨a, hp₁, h', tk, e1, T1, R1, q1⟩ => by
    subst e1
    exact EV.of_CV (q1 _ _ rfl R1) F { s with heap := h', toks := tk } hS T1) fun _ _ z => z) he hplain
theorem CW_ty {id : String} {e : Expr} {rest : List Expr} (h : EVs prog w h₁ A L m (spliced (backTo pos (starEach (e :: rest) env))) hp fun as hp₁ => CL prog w h₁ A (.ty id) as hp₁ Q)
    (he : starEach (e :: rest) env = (false, eval e env) :: starEach rest env := by rfl) (hplain : (backTo pos (starEach rest env)).any (·.1) = false := by rfl) :
    CW prog w h₁ A L m env pos (.ty id) (e :: rest) hp Q := fun vf e0 F s hS hT => by
  cases e0
  exact PyProof.Rows.callWith_type1 (wpAny_mono (h F s hS hT) (fun va s₁ ⟨a, hp₁, h', tk, e1, T1, R1, q1⟩ => by
    subst e1
    exact EV.of_CV (q1 _ _ rfl R1) F { s with heap := h', toks := tk } hS T1) fun _ _ z => z) he hplain
theorem CW_K (C : CX prog w K h₁) {f : Addr} {e : Expr} {rest : List Expr} (hk : keepIn K (.ref f) = true) (h : EVs prog w h₁ A L m (spliced (backTo pos (starEach (e :: rest) env))) hp fun as hp₁ => CL prog w h₁ A (.ref f) as hp₁ Q)
    (he : starEach (e :: rest) env = (false, eval e env) :: starEach rest env := by rfl) (hplain : (backTo pos (starEach rest env)).any (·.1) = false := by rfl) :
    CW prog w h₁ A L m env pos (.ref f) (e :: rest) hp Q := fun vf e0 F s hS hT => by
  cases e0
  exact callWith_K C.X hk (wpAny_mono (h F s hS hT) (fun va s₁ ⟨a, hp₁, h', tk, e1, T1, R1, q1⟩ => by
    subst e1
    exact ⟨C.X.keeps (hS.into T1.hr), EV.of_CV (q1 _ _ rfl R1) F { s with heap := h', toks := tk } hS T1⟩) fun _ _ z => z) he hplain
/-- a function object that was made -/
theorem CW_F {f : Addr} {oc : Value} {od : Option Addr} {fd : FuncData} {sl : Array (Option Value)} {e : Expr} {rest : List Expr} (hf : hp f = some (.obj ⟨oc, od, .func fd, sl⟩))
    (h : EVs prog w h₁ A L m (spliced (backTo pos (starEach (e :: rest) env))) hp fun as hp₁ => hp₁ f = some (.obj ⟨oc, od, .func fd, sl⟩) ∧ CL prog w h₁ A (.ref f) as hp₁ Q)
    (he : starEach (e :: rest) env = (false, eval e env) :: starEach rest env := by rfl) (hplain : (backTo pos (starEach rest env)).any (·.1) = false := by rfl) :
    CW prog w h₁ A L m env pos (.ref f) (e :: rest) hp Q := fun vf e0 F s hS hT => by
  cases e0
  refine PySem.W.callWith_F ⟨oc, od, fd, sl, (hT.hr.ob _ _ hf).2⟩ (wpAny_mono (h F s hS hT) (fun va s₁ ⟨a, hp₁, h', tk, e1, T1, R1, hf1, q1⟩ => ?_) fun _ _ z => z) he hplain
  subst e1
  exact ⟨⟨oc, od, fd, sl, (T1.hr.ob _ _ hf1).2⟩, EV.of_CV (q1 _ _ rfl R1) F { s with heap := h', toks := tk } hS T1⟩

theorem VRs.one {a : AV} {vs : List Value} (h : VRs [a] vs) : ∃ v, vs = [v] ∧ VR a v := by
  cases h with | cons r r2 => cases r2; exact ⟨_, rfl, r⟩
theorem VRs.two {a b : AV} {vs : List Value} (h : VRs [a, b] vs) : ∃ v v', vs = [v, v'] ∧ VR a v ∧ VR b v' := by
  cases h with | cons r r2 => obtain ⟨v, rfl, r'⟩ := r2.one; exact ⟨_, _, rfl, r, r'⟩
theorem VRs.three {a b c : AV} {vs : List Value} (h : VRs [a, b, c] vs) : ∃ v v' v'', vs = [v, v', v''] ∧ VR a v ∧ VR b v' ∧ VR c v'' := by
  cases h with | cons r r2 => obtain ⟨v, v', rfl, r', r''⟩ := r2.two; exact ⟨_, _, _, rfl, r, r', r''⟩

/-! built-ins -/
theorem cl_len {a : Addr} {xs : List AV} (hl : hp a = some (.list xs)) (hn : xs.length ≤ 2 ^ 30) (h : Q (.int (xs.length : Int)) hp) : CL prog w h₁ A (.bi "len") [.ref a] hp Q := fun vf vs e0 es F s hS hT => by
  cases e0
  obtain ⟨_, rfl, r⟩ := es.one; cases r
  obtain ⟨_, vs, pl, r⟩ := hT.ob _ _ hl
  have : (vs.toArray.size : Int) = (xs.length : Int) := by rw [List.size_toArray, r.length]
  exact call_len_list pl.isList (by omega) ⟨.int xs.length, hp, s.heap, s.toks + 1 + 1, rfl, hT, ⟨_, by rw [this]⟩, h⟩
theorem cl_abs {x : Int} (h : Q (.int (if x < 0 then -x else x)) hp) : CL prog w h₁ A (.bi "abs") [.int x] hp Q := fun vf vs e0 es F s hS hT => by
  cases e0
  obtain ⟨_, rfl, t, rfl⟩ := es.one
  exact call_abs_int fun u tk => ⟨.int _, hp, s.heap, tk, rfl, hT, ⟨u, rfl⟩, h⟩
theorem cl_max {x y : Int} (hh : A.handled = none) (h : Q (.int (if y > x then y else x)) hp) : CL prog w h₁ A (.bi "max") [.int x, .int y] hp Q := fun vf vs e0 es F s hS hT => by
  cases e0
  obtain ⟨_, _, rfl, ⟨t, rfl⟩, u, rfl⟩ := es.two
  refine max_two_ints hh fun h' tk hk => ⟨_, hp, h', tk, rfl, hT.keep hk, ?_, h⟩
  split
  · exact ⟨u, rfl⟩
  · exact ⟨t, rfl⟩
theorem cl_min {x y : Int} (hh : A.handled = none) (h : Q (.int (if y < x then y else x)) hp) : CL prog w h₁ A (.bi "min") [.int x, .int y] hp Q := fun vf vs e0 es F s hS hT => by
  cases e0
  obtain ⟨_, _, rfl, ⟨t, rfl⟩, u, rfl⟩ := es.two
  refine min_two_ints hh fun h' tk hk => ⟨_, hp, h', tk, rfl, hT.keep hk, ?_, h⟩
  split
  · exact ⟨u, rfl⟩
  · exact ⟨t, rfl⟩
theorem cl_range1 {x : Int} (h : ∀ b, hp b = none → Q (.ref b) (up hp b (.rng 0 x 1))) : CL prog w h₁ A (.ty "range") [.int x] hp Q := fun vf vs e0 es F s hS hT => by
  cases e0
  obtain ⟨_, rfl, t, rfl⟩ := es.one
  exact call_range_1 ⟨.ref s.heap.objs.size, _, _, _, rfl, hT.new (o := .rng 0 x 1) (Nat.le_refl _) push_get ⟨_, _, _, Heap.get?_push_size _ rfl⟩, rfl, h _ (hT.fresh (Nat.le_refl _)).1⟩
theorem cl_range2 {x y : Int} (h : ∀ b, hp b = none → Q (.ref b) (up hp b (.rng x y 1))) : CL prog w h₁ A (.ty "range") [.int x, .int y] hp Q := fun vf vs e0 es F s hS hT => by
  cases e0
  obtain ⟨_, _, rfl, ⟨t, rfl⟩, u, rfl⟩ := es.two
  exact call_range_2 ⟨.ref s.heap.objs.size, _, _, _, rfl, hT.new (o := .rng x y 1) (Nat.le_refl _) push_get ⟨_, _, _, Heap.get?_push_size _ rfl⟩, rfl, h _ (hT.fresh (Nat.le_refl _)).1⟩
theorem cl_range3 {x y z : Int} (hz : z ≠ 0) (hz2 : z.natAbs < 1073741824) (h : ∀ b, hp b = none → Q (.ref b) (up hp b (.rng x y z))) : CL prog w h₁ A (.ty "range") [.int x, .int y, .int z] hp Q := fun vf vs e0 es F s hS hT => by
  cases e0
  obtain ⟨_, _, _, rfl, ⟨t, rfl⟩, ⟨u, rfl⟩, u', rfl⟩ := es.three
  exact call_range_3 hz ⟨.ref s.heap.objs.size, _, _, _, rfl, hT.new (o := .rng x y z) (Nat.le_refl _) push_get ⟨_, _, _, Heap.get?_push_size _ rfl⟩, rfl, h _ (hT.fresh (Nat.le_refl _)).1⟩ (.inl (PyProof.noPylong_small hz2))
theorem cl_append {a : Addr} {xs : List AV} {v : AV} (hl : hp a = some (.list xs)) (hn : xs.length ≤ 100000) (h : Q .none (up hp a (.list (xs ++ [v])))) : CL prog w h₁ A (.bi "list.append") [.ref a, v] hp Q := fun vf vs e0 es F s hS hT => by
  cases e0
  obtain ⟨_, _, rfl, r, r'⟩ := es.two; cases r
  obtain ⟨_, vs, pl, r⟩ := hT.ob _ _ hl
  refine wpAny_list_append_plain (hsz := by rw [List.size_toArray, ← r.length]; exact Nat.le_trans hn (by decide)) pl fun h' hpl hs => ⟨.none, _, h', s.toks, rfl, hT.chg (o := .list (xs ++ [v])) hl hs.extBut ⟨vs ++ [_], by simpa using hpl, r.append (.cons r' .nil)⟩, rfl, h⟩

/-! lists: + and * -/
theorem op_cat {a b : Addr} {xs ys : List AV} (ha : hp a = some (.list xs)) (hb : hp b = some (.list ys)) (hn : xs.length + ys.length ≤ 100000) (h : ∀ c, hp c = none → Q (.ref c) (up hp c (.list (xs ++ ys)))) :
    OP2 prog w h₁ A .Add (.ref a) (.ref b) hp Q := fun va vb e1 e2 F s hS hT => by
  cases e1; cases e2
  obtain ⟨_, vs, ⟨n, g⟩, r⟩ := hT.ob _ _ ha
  obtain ⟨_, ws, ⟨n', g'⟩, r'⟩ := hT.ob _ _ hb
  have e : vs.toArray ++ ws.toArray = (vs ++ ws).toArray := by simp
  refine concat_meets ⟨_, g, rfl⟩ ⟨_, g', rfl⟩ noFill_list_add seq_list_add PySem.F.slot_list_add PySem.F.entry_list_add (PySem.F.args_list_add_2 _ _) (list_addW a b vs.toArray ws.toArray n n' none none #[] #[] (by
    have l1 := r.length; have l2 := r'.length; simp; exact Nat.le_trans (by omega) (show 100000 ≤ sizeLine by decide))) ⟨g, g', ?_⟩
  rw [e]
  exact ⟨.ref s.heap.objs.size, _, _, s.toks, rfl, hT.new (o := .list (xs ++ ys)) (Nat.le_refl _) push_get ⟨_, ⟨0, Heap.get?_push_size _ rfl⟩, r.append r'⟩, rfl, h _ (hT.fresh (Nat.le_refl _)).1⟩
theorem VRs.rep {a : AV} {v : Value} (r : VR a v) : ∀ n : Nat, VRs (List.replicate n a) (List.replicate n v)
  | 0 => .nil
  | n + 1 => .cons r (VRs.rep r n)
theorem foldl_one {v : Value} : ∀ (n : Nat) (acc : Array Value), List.foldl (fun x1 x2 => x1 ++ x2) acc (List.replicate n #[v]) = acc ++ (List.replicate n v).toArray
  | 0, acc => by simp
  | n + 1, acc => by
    rw [List.replicate_succ, List.foldl_cons, foldl_one n, List.replicate_succ]
    apply Array.toList_inj.mp
    simp
theorem op_rep {a : Addr} {x : AV} {i : Int} (ha : hp a = some (.list [x])) (h0 : 0 ≤ i) (hn : i ≤ 100000) (h : ∀ c, hp c = none → Q (.ref c) (up hp c (.list (List.replicate i.toNat x)))) :
    OP2 prog w h₁ A .Mult (.ref a) (.int i) hp Q := fun va vb e1 ⟨u, e2⟩ F s hS hT => by
  cases e1; subst e2
  obtain ⟨_, vs, ⟨n, g⟩, r⟩ := hT.ob _ _ ha
  cases r with
  | cons rx r0 =>
    cases r0
    rename_i v
    refine wpAny_binaryOp_repeat_ref (T := "list") (U := "int") (by decide) ⟨_, g, rfl⟩ (fun s' => typeIs_int s' i u) noFill_list_mul PySem.F.fills_int_mul PySem.F.slot_int_rmul repeat_list PySem.F.slot_int_index.lookup
      (call_meets PySem.F.slot_int_rmul (typeIs_int s i u) PySem.F.entry_int_rmul (PySem.F.args_int_rmul_2 _ _) (int___rmul___int_list i u a [v].toArray n)
        ⟨g, rfl, ⟨_, g, rfl⟩, call_meets PySem.F.slot_list_mul ⟨_, g, rfl⟩ PySem.F.entry_list_mul (PySem.F.args_list_mul_2 _ _)
          (AutoListH.list___mul___list_int_3 a [v].toArray n i u (by simp [Builtin.List.listFitsIndex]; omega) (by have e1 : #[v].size = 1 := rfl; rw [e1]; omega) (by have e1 : #[v].size = 1 := rfl; simp [Builtin.List.listTooLong, sizeLine]; omega))
          ⟨g, ?_⟩⟩)
    have e : List.foldl (fun x1 x2 => x1 ++ x2) #[] (List.replicate (if ([v].toArray : Array Value).isEmpty = true then 0 else i.toNat) [v].toArray) = (List.replicate i.toNat v).toArray := by
      have := foldl_one (v := v) i.toNat #[]
      simpa using this
    rw [e]
    exact ⟨.ref s.heap.objs.size, _, _, s.toks, rfl, hT.new (o := .list (List.replicate i.toNat x)) (Nat.le_refl _) push_get ⟨_, ⟨0, Heap.get?_push_size _ rfl⟩, VRs.rep rx _⟩, rfl, h _ (hT.fresh (Nat.le_refl _)).1⟩

/-! stores into objects -/
theorem set_list {a : Addr} {xs : List AV} {i : Int} {v : AV} {vi vv : Value} {R : Hp → Prop} (hl : hp a = some (.list xs)) (h0 : 0 ≤ i) (h1 : i < xs.length) (hi : i < 2 ^ 62) (e1 : VR (.int i) vi) (e2 : VR v vv) (h : R (up hp a (.list (xs.set i.toNat v)))) :
    CU prog w h₁ A (setItem (.ref a) vi vv) hp R := fun F s hS hT => by
  obtain ⟨u, rfl⟩ := e1
  obtain ⟨_, vs, ⟨n, g⟩, r⟩ := hT.ob _ _ hl
  have hlen : xs.length = vs.length := r.length
  refine ki_setAt (n := n) g h0 (by omega) (by simp; omega) ⟨up hp a (.list (xs.set i.toNat v)), _, s.toks, rfl, hT.chg hl (Heap.SameBut.update ..).extBut ⟨vs.set i.toNat vv, ?_, r.set e2⟩, h⟩
  have hu := Heap.get?_update_self (h := s.heap) (Obj.mapSeq (·.setIfInBounds i.toNat vv)) g (by simp [Obj.mapSeq, Obj.isFreed])
  have e : Obj.mapSeq (·.setIfInBounds i.toNat vv) { cls := .type "list", data := .seq vs.toArray n } = { cls := .type "list", data := .seq (vs.set i.toNat vv).toArray (n + ((vs.toArray.setIfInBounds i.toNat vv).size - vs.toArray.size)) } := by
    simp [Obj.mapSeq]
  exact ⟨_, hu.trans (congrArg some e)⟩
end
end Mine
end
section
open PySem PySem.W PyProof.Rows PySem.Calls
namespace Mine
theorem lookup_put {m : Lm} {x y : Str} {v : AV} : ((x, v) :: m).lookup y = if y = x then some v else m.lookup y := by
  rw [List.lookup_cons]
  by_cases e : y = x
  · subst e; simp
  · have : (y == x) = false := beq_eq_false_iff_ne.mpr e
    rw [this, if_neg e]
def Sub (m M : Lm) : Prop := ∀ y v, m.lookup y = some v → M.lookup y = some v
theorem Sub.nil {M : Lm} : Sub [] M := fun _ _ e => by simp at e
theorem Sub.cons {x : Str} {v : AV} {m M : Lm} (h : M.lookup x = some v) (k : Sub m M) : Sub ((x, v) :: m) M := fun y u e => by
  rw [lookup_put] at e
  by_cases q : y = x
  · subst q; simp at e; subst e; exact h
  · rw [if_neg q] at e; exact k y u e
theorem Sub.put {x : Str} {v : AV} {m M : Lm} (k : Sub m M) : Sub ((x, v) :: m) ((x, v) :: M) := fun y u e => by
  rw [lookup_put] at e ⊢
  by_cases q : y = x
  · rw [if_pos q] at e ⊢; exact e
  · rw [if_neg q] at e ⊢; exact k y u e
theorem Sub.refl {m : Lm} : Sub m m := fun _ _ e => e
theorem Sub.trans {a b c : Lm} (x : Sub a b) (y : Sub b c) : Sub a c := fun z v e => y z v (x z v e)
def Les (hp hp' : Hp) : Prop := ∀ a o, hp a = some o → hp' a = some o
theorem Les.refl {hp : Hp} : Les hp hp := fun _ _ e => e
theorem Les.trans {a b c : Hp} (x : Les a b) (y : Les b c) : Les a c := fun z v e => y z v (x z v e)
theorem Les.new {hp hp' : Hp} {a : Addr} {o : AO} (k : Les hp hp') (h : hp a = none) : Les hp (up hp' a o) := fun b ob e => by
  rw [up_ne (fun q => by rw [q, h] at e; cases e)]; exact k b ob e
theorem Les.up {hp hp' : Hp} {a : Addr} {o : AO} (k : Les hp hp') : Les (up hp a o) (up hp' a o) := fun b ob e => by
  by_cases q : b = a
  · subst q; simpa using e
  · rw [up_ne q] at e ⊢; exact k b ob e
theorem ne_of_none {hp : Hp} {a b : Addr} {o : AO} (h : hp a = some o) (k : hp b = none) : a ≠ b := fun q => by rw [q, k] at h; cases h

theorem Sub.get {m M : Lm} {x : Str} {v : AV} (k : Sub m M) (e : m.lookup x = some v) : M.lookup x = some v := k _ _ e

section
variable {prog : Program} {w : World} {h₁ : Heap} {K : Frag} {A : Around} {L : Addr} {m : Lm} {hp : Hp} {env : Env} {pos : Pos} {k : Nat} {Q : AV → Hp → Prop}

/-! two methods -/
theorem EV_append {o e : Expr} {apos : Pos} {pl : Sem Bool}
    (h : EV prog w h₁ A L m (eval o env) hp fun a hp₁ => ∃ l xs, a = .ref l ∧ hp₁ l = some (.list xs) ∧ EV prog w h₁ A L m (eval e env) hp₁ fun v hp₂ => CL prog w h₁ A (.bi "list.append") [.ref l, v] hp₂ Q)
    (he : eval (.Call (.Attribute o "append" apos) [e] [] pos) env = (do
      let ov ← eval o env
      standAt apos.atName
      let (f, first) ← holding [ov] (getMethod ov "append" pl)
      callWith pos f first (backTo pos (starEach [e] env)) []) := by rfl)
    (hs : starEach [e] env = (false, eval e env) :: starEach [] env := by rfl) :
    EV prog w h₁ A L m (eval (.Call (.Attribute o "append" apos) [e] [] pos) env) hp Q := fun F s hS hT => by
  refine MethodCall_ (pl := pl) (wpAny_mono (h F s hS hT) (fun va s₁ ⟨a, hp₁, h', tk, e1, T1, R1, l, xs, ea, hl, q1⟩ => ?_) fun _ _ z => z) he
  subst e1 ea
  cases R1
  obtain ⟨_, vs, ⟨n, g⟩, r⟩ := T1.hr.ob _ _ hl
  refine getMethod_list_append g rfl rfl (callWith_method1 (args_cons (wpAny_mono (q1 F { s with heap := h', toks := tk } hS T1) (fun vb s₂ ⟨b, hp₂, h'', tk', e2, T2, R2, q2⟩ => ?_) fun _ _ z => z) hs) hs)
  subst e2
  exact args_nil (EV.of_CV (q2 _ [.ref l, vb] rfl (.cons rfl (.cons R2 .nil))) F { s with heap := h'', toks := tk' } hS T2)
theorem EV_bitlen {o : Expr} {apos : Pos} {pl : Sem Bool}
    (h : EV prog w h₁ A L m (eval o env) hp fun a hp₁ => ∃ i, a = .int i ∧ Q (.int (Builtin.Int.intBits i)) hp₁)
    (he : eval (.Call (.Attribute o (Str.ofString "bit_length") apos) [] [] pos) env = (do
      let ov ← eval o env
      standAt apos.atName
      let (f, first) ← holding [ov] (getMethod ov (Str.ofString "bit_length") pl)
      callWith pos f first (backTo pos (starEach [] env)) []) := by rfl) :
    EV prog w h₁ A L m (eval (.Call (.Attribute o (Str.ofString "bit_length") apos) [] [] pos) env) hp Q := fun F s hS hT => by
  refine MethodCall_ (pl := pl) (wpAny_mono (h F s hS hT) (fun va s₁ ⟨a, hp₁, h', tk, e1, T1, R1, i, ea, q1⟩ => ?_) fun _ _ z => z) he
  subst e1 ea
  obtain ⟨t, rfl⟩ := R1
  exact getMethod_int_bit_length (callWith_method0 (call_int_bit_length ⟨.int (Builtin.Int.intBits i), hp₁, h', tk + 1, rfl, T1, ⟨_, rfl⟩, q1⟩))

/-! lists compared -/
theorem VRs.ints : ∀ {ns : List Int} {vs : List Value}, VRs (iL ns) vs → IntsAre vs ns
  | [], _, .nil => .nil
  | n :: _, _, .cons r r2 => by obtain ⟨t, rfl⟩ := r; exact .cons n t (VRs.ints r2)
theorem VRs.of_ints : ∀ {vs : List Value} {ns : List Int}, IntsAre vs ns → VRs (iL ns) vs
  | _, _, .nil => .nil
  | _, _, .cons n t r => .cons ⟨t, rfl⟩ (VRs.of_ints r)
theorem cm_leq {a b : Addr} {ns ms : List Int} (hu : A.units + 64 < cLine) (ha : hp a = some (.list (iL ns))) (hb : hp b = some (.list (iL ms))) (h : Q (.bool (decide (ns = ms))) hp) : CM2 prog w h₁ A .Eq (.ref a) (.ref b) hp Q := fun va vb e1 e2 F s hS hT => by
  cases e1; cases e2
  obtain ⟨_, vs, p, r⟩ := hT.ob _ _ ha
  obtain ⟨_, us, p', r'⟩ := hT.ob _ _ hb
  exact eq_intsK p.isList r.ints p'.isList r'.ints hu (cp_bool hT h)
theorem cm_lne {a b : Addr} {ns ms : List Int} (hu : A.units + 64 < cLine) (ha : hp a = some (.list (iL ns))) (hb : hp b = some (.list (iL ms))) (h : Q (.bool (decide (ns ≠ ms))) hp) : CM2 prog w h₁ A .NotEq (.ref a) (.ref b) hp Q := fun va vb e1 e2 F s hS hT => by
  cases e1; cases e2
  obtain ⟨_, vs, p, r⟩ := hT.ob _ _ ha
  obtain ⟨_, us, p', r'⟩ := hT.ob _ _ hb
  refine ne_intsK p.isList r.ints p'.isList r'.ints hu (cp_bool hT ?_)
  have : (!decide (ns = ms)) = decide (ns ≠ ms) := by simp
  rw [this]; exact h
end

/-! stores -/
section
variable {prog : Program} {w : World} {h₁ : Heap} {K : Frag} {A : Around} {L a : Addr} {m : Lm} {hp : Hp} {cn : Str} {cs : Scope} {ccd : Value} {cl : List (Str × Addr)}
  {x : Str} {pos : Pos} {v : AV} {R : Lm → Hp → Prop}
theorem UV_L {vc : Value} (hv : VR v vc) (h : R ((x, v) :: m) hp) (hk : cs.kind = .function := by rfl) (hx : (envX cn cs L a ccd cl).kindOf x = some .local := by rfl) :
    UV prog w h₁ A L m (storeName (envX cn cs L a ccd cl) x vc) hp R := fun F s hS hT => by
  obtain ⟨mc, hn, hm⟩ := hT.frm
  refine wpAny_storeName_local hx hn (fun h' hn' hs => ⟨(x, v) :: m, hp, h', s.toks + 1, rfl, ⟨⟨fun b o e => ?_, fun b o e => ?_⟩, ⟨_, hn', fun y u e => ?_⟩, hT.fl, hT.hl⟩, h⟩)
    (by show (cs.kind == .class || (cs.kind == .module && L != mainGlobals)) = false; rw [hk]; rfl)
  · exact hs.extBut b o (fun q => by rw [q] at e; rw [show F L = none from hT.fl] at e; cases e) (hT.hr.fz b o e)
  · exact ⟨(hT.hr.ob b o e).1, (hT.hr.ob b o e).2.keep fun ob q => hs.extBut b ob (fun z => by rw [z] at e; rw [show hp L = none from hT.hl] at e; cases e) q⟩
  · rw [lookup_put] at e
    by_cases q : y = x
    · subst q; simp at e; subst e; exact ⟨vc, by simp, hv⟩
    · rw [if_neg q] at e
      obtain ⟨u', e1, e2⟩ := hm y u e
      exact ⟨u', by simp [q, e1], e2⟩
theorem UV_C {vc : Value} {c : Addr} {o₀ : AO} (hc : cl.lookup x = some c) (h0 : hp c = some o₀) (ho : o₀ = .cell0 ∨ ∃ z, o₀ = .cell z) (hv : VR v vc) (h : R m (up hp c (.cell v))) (hk : cs.kind = .function := by rfl) (hx : (envX cn cs L a ccd cl).kindOf x = some .cell := by rfl) :
    UV prog w h₁ A L m (storeName (envX cn cs L a ccd cl) x vc) hp R := fun F s hS hT => by
  have : ∃ v₀, s.heap.IsCell c v₀ := by
    rcases ho with rfl | ⟨z, rfl⟩
    · obtain ⟨_, o, e1, e2⟩ := hT.hr.ob _ _ h0; exact ⟨none, o, e1, e2⟩
    · obtain ⟨_, o, y, e1, e2, _⟩ := hT.hr.ob _ _ h0; exact ⟨some y, o, e1, e2⟩
  obtain ⟨v₀, hcell⟩ := this
  have hcL : c ≠ L := fun q => by rw [q] at h0; rw [hT.hl] at h0; cases h0
  exact wpAny_storeName_cell hk hx hc hcell fun h' ⟨o', e1, e2⟩ hs => ⟨m, up hp c (.cell v), h', s.toks, rfl, ⟨hT.hr.chg h0 hs.extBut ⟨o', vc, e1, e2, hv⟩, hT.frm.keep fun ob e => hs.extBut L ob hcL.symm e, hT.fl, by rw [up_ne hcL.symm]; exact hT.hl⟩, h⟩
end

section
variable {prog : Program} {w : World} {h₁ : Heap} {K : Frag} {A : Around} {L : Addr} {m : Lm} {hp : Hp} {env : Env} {pos : Pos} {k : Nat} {Q : AF → Lm → Hp → Prop}

theorem SV_nil (h : Q .next m hp) : SV prog w h₁ A L m (execs [] env) hp Q := fun F s hS hT => wpAny_execs_nil ⟨.next, m, hp, s.heap, s.toks, rfl, hT, rfl, h⟩
/-- what follows a statement: a name, so that it is not copied -/
def Seq (prog : Program) (w : World) (h₁ : Heap) (A : Around) (L : Addr) (rest : List Stmt) (env : Env) (Q : AF → Lm → Hp → Prop) : AF → Lm → Hp → Prop := fun f m' hp' => match f with
  | .next => SV prog w h₁ A L m' (execs rest env) hp' Q
  | f => Q f m' hp'
theorem Seq_next {rest : List Stmt} (h : SV prog w h₁ A L m (execs rest env) hp Q) : Seq prog w h₁ A L rest env Q .next m hp := h
theorem Seq_ret {rest : List Stmt} {v : AV} (h : Q (.ret v) m hp) : Seq prog w h₁ A L rest env Q (.ret v) m hp := h
theorem Seq_cont {rest : List Stmt} (h : Q .cont m hp) : Seq prog w h₁ A L rest env Q .cont m hp := h
def Br (prog : Program) (w : World) (h₁ : Heap) (A : Around) (L : Addr) (m : Lm) (body orelse : List Stmt) (env : Env) (Q : AF → Lm → Hp → Prop) (b : Bool) (hp₁ : Hp) : Prop :=
  (b = true → SV prog w h₁ A L m (execs body env) hp₁ Q) ∧ (b = false → SV prog w h₁ A L m (execs orelse env) hp₁ Q)
theorem SV_cons {st : Stmt} {rest : List Stmt} (h : SV prog w h₁ A L m (exec st env) hp (Seq prog w h₁ A L rest env Q)) :
    SV prog w h₁ A L m (execs (st :: rest) env) hp Q := fun F s hS hT =>
  wpAny_execs_cons (wpAny_mono (h F s hS hT) (fun f s₁ ⟨af, m', hp', h', tk, e1, T1, R1, q1⟩ => by
    subst e1
    cases af with
    | next => cases R1; exact q1 F { s with heap := h', toks := tk } hS T1
    | brk => cases R1; exact ⟨.brk, m', hp', h', tk, rfl, T1, rfl, q1⟩
    | cont => cases R1; exact ⟨.cont, m', hp', h', tk, rfl, T1, rfl, q1⟩
    | ret v => obtain ⟨vc, rfl, r⟩ := R1; exact ⟨.ret v, m', hp', h', tk, rfl, T1, ⟨vc, rfl, r⟩, q1⟩) fun _ _ z => z)

theorem SV_Assign {x : Str} {pos' : Pos} {value : Expr} (h : EV prog w h₁ A L m (eval value env) hp fun v hp₁ => ∀ vc, VR v vc → UV prog w h₁ A L m (storeName env x vc) hp₁ fun m' hp₂ => Q .next m' hp₂)
    (hs : swapsWith value (some (.Name x pos')) pos.line env = pure false := by rfl) : SV prog w h₁ A L m (exec (.Assign [.Name x pos'] value pos) env) hp Q := fun F s hS hT =>
  wpAny_Assign_Name (wpAny_mono (h F s hS hT) (fun va s₁ ⟨a, hp₁, h', tk, e1, T1, R1, q1⟩ => by
    subst e1
    exact wpAny_mono (q1 va R1 F { s with heap := h', toks := tk } hS T1) (fun _ s₂ ⟨m', hp₂, h'', tk', e2, T2, q2⟩ => by
      subst e2
      exact ⟨.next, m', hp₂, h'', tk', rfl, T2, rfl, q2⟩) fun _ _ z => z) fun _ _ z => z) hs
theorem SV_Aug {x : Str} {pos' : Pos} {op : Operator} {value : Expr} (ho : EV prog w h₁ A L m (loadName env x) hp fun o hp₁ => EV prog w h₁ A L m (eval value env) hp₁ fun v hp₂ => IP2 prog w h₁ A op o v hp₂ fun r hp₃ => ∀ vc, VR r vc → UV prog w h₁ A L m (storeName env x vc) hp₃ fun m' hp₄ => Q .next m' hp₄) :
    SV prog w h₁ A L m (exec (.AugAssign (.Name x pos') op value pos) env) hp Q := fun F s hS hT =>
  wpAny_AugAssign_Name (wpAny_mono (ho F s hS hT) (fun va s₁ ⟨a, hp₁, h', tk, e1, T1, R1, q1⟩ => by
    subst e1
    refine wpAny_mono (q1 F { s with heap := h', toks := tk } hS T1) (fun vb s₂ ⟨b, hp₂, h'', tk', e2, T2, R2, q2⟩ => ?_) fun _ _ z => z
    subst e2
    refine wpAny_mono (EV.of_CV (q2 va vb R1 R2) F { s with heap := h'', toks := tk' } hS T2) (fun vc s₃ ⟨c, hp₃, h3, tk3, e3, T3, R3, q3⟩ => ?_) fun _ _ z => z
    subst e3
    exact wpAny_mono (q3 vc R3 F { s with heap := h3, toks := tk3 } hS T3) (fun _ s₂ ⟨m', hp₂, h'', tk', e2, T2, q2⟩ => by
      subst e2
      exact ⟨.next, m', hp₂, h'', tk', rfl, T2, rfl, q2⟩) fun _ _ z => z) fun _ _ z => z)
theorem SV_SetItem {o i : Expr} {pos' : Pos} {value : Expr}
    (h : EV prog w h₁ A L m (eval value env) hp fun v hp₁ => EV prog w h₁ A L m (eval o env) hp₁ fun ov hp₂ => EV prog w h₁ A L m (eval i env) hp₂ fun iv hp₃ => ∃ l, ov = .ref l ∧ hp₃ l ≠ none ∧
      ∀ vi vv, VR iv vi → VR v vv → CU prog w h₁ A (setItem (.ref l) vi vv) hp₃ fun hp₄ => Q .next m hp₄)
    (hs : swapsWith value (some (.Subscript o i pos')) pos.line env = pure false := by rfl) :
    SV prog w h₁ A L m (exec (.Assign [.Subscript o i pos'] value pos) env) hp Q := fun F s hS hT => by
  refine wpAny_Assign_Subscript (wpAny_mono (h F s hS hT) (fun va s₁ ⟨a, hp₁, h', tk, e1, T1, R1, q1⟩ => ?_) fun _ _ z => z) hs
  subst e1
  refine wpAny_mono (q1 F { s with heap := h', toks := tk } hS T1) (fun vb s₂ ⟨b, hp₂, h'', tk', e2, T2, R2, q2⟩ => ?_) fun _ _ z => z
  subst e2
  refine wpAny_mono (q2 F { s with heap := h'', toks := tk' } hS T2) (fun vc s₃ ⟨c, hp₃, h3, tk3, e3, T3, R3, l, eb, hl, q3⟩ => ?_) fun _ _ z => z
  subst e3 eb
  cases R2
  obtain ⟨oL, eL, hr, back⟩ := T3.down
  exact wpAny_mono (q3 vc va R3 R1 _ { s with heap := h3, toks := tk3 } (hS.add T3.fl) hr) (fun _ s₄ ⟨hp₄, h4, tk4, e4, T4, q4⟩ => by
    subst e4
    exact ⟨.next, m, hp₄, h4, tk4, rfl, back _ _ T4, rfl, q4⟩) fun _ _ z => z
theorem SV_If {test : Expr} {body orelse : List Stmt} (h : TV prog w h₁ A L m (isTrue test env (eval test env)) hp (Br prog w h₁ A L m body orelse env Q)) :
    SV prog w h₁ A L m (exec (.If test body orelse pos) env) hp Q := fun F s hS hT =>
  wpAny_If (wpAny_mono (h F s hS hT) (fun b s₁ ⟨hp₁, h', tk, e1, T1, q1⟩ => by
    subst e1
    cases b
    · exact q1.2 rfl F { s with heap := h', toks := tk } hS T1
    · exact q1.1 rfl F { s with heap := h', toks := tk } hS T1) fun _ _ z => z)
theorem SV_Return {e : Expr} (h : EV prog w h₁ A L m (eval e env) hp fun v hp₁ => Q (.ret v) m hp₁) : SV prog w h₁ A L m (exec (.Return (some e) pos) env) hp Q := fun F s hS hT =>
  wpAny_Return_some (wpAny_mono (h F s hS hT) (fun va s₁ ⟨a, hp₁, h', tk, e1, T1, R1, q1⟩ => ⟨.ret a, m, hp₁, h', tk, e1, T1, ⟨va, rfl, R1⟩, q1⟩) fun _ _ z => z)
theorem SV_Continue (h : Q .cont m hp) : SV prog w h₁ A L m (exec (.Continue pos) env) hp Q := fun F s hS hT => wpAny_Continue ⟨.cont, m, hp, s.heap, s.toks, rfl, hT, rfl, h⟩
theorem SV_Expr {e : Expr} (h : EV prog w h₁ A L m (eval e env) hp fun v hp₁ => v = .none ∧ Q .next m hp₁) (hi : interactive env = false := by rfl) (hs : swapsWith e none pos.line env = pure false := by rfl) :
    SV prog w h₁ A L m (exec (.Expr e pos) env) hp Q := fun F s hS hT =>
  wpAny_Expr (wpAny_mono (h F s hS hT) (fun va s₁ ⟨a, hp₁, h', tk, e1, T1, R1, ea, q1⟩ => by
    subst ea; cases R1
    exact ⟨.next, m, hp₁, h', tk, e1, T1, rfl, q1⟩) fun _ _ z => z) hi hs

/-! while -/
def Back (Q : AF → Lm → Hp → Prop) (J : Lm → Hp → Prop) : AF → Lm → Hp → Prop := fun f m hp => match f with
  | .next => J m hp
  | .cont => J m hp
  | .brk => Q .next m hp
  | .ret v => Q (.ret v) m hp
theorem Back_ret {J : Lm → Hp → Prop} {v : AV} (h : Q (.ret v) m hp) : Back Q J (.ret v) m hp := h
def WhB (prog : Program) (w : World) (h₁ : Heap) (A : Around) (L : Addr) (m : Lm) (body : List Stmt) (env : Env) (Q : AF → Lm → Hp → Prop) (J : Nat → Lm → Hp → Prop) (n : Nat) (b : Bool) (hp₁ : Hp) : Prop :=
  (b = true → SV prog w h₁ A L m (execs body env) hp₁ (Back Q fun m' hp' => ∃ k, k < n ∧ J k m' hp')) ∧ (b = false → Q .next m hp₁)
theorem SV_While {test : Expr} {body : List Stmt} (J : Nat → Lm → Hp → Prop) (n : Nat) (h0 : J n m hp)
    (turn : ∀ n m₀ hp₀, J n m₀ hp₀ → ∃ m hp, Sub m m₀ ∧ Les hp hp₀ ∧ TV prog w h₁ A L m (isTrue test env (eval test env)) hp (WhB prog w h₁ A L m body env Q J n)) :
    SV prog w h₁ A L m (exec (.While test body [] pos) env) hp Q := fun F s hS hT => by
  refine wpAny_While ?_
  refine codeAny_whileLoop (fun n s' => ∃ m' hp' h' tk', s' = { s with heap := h', toks := tk' } ∧ ST prog w F L m' hp' h' ∧ J n m' hp') ?_ n ⟨m, hp, s.heap, s.toks, rfl, hT, h0⟩
  rintro n _ ⟨m₁, hp₁, h', tk', rfl, T1, hJ⟩
  obtain ⟨m₁, hp₁, sm, sl, turn'⟩ := turn n m₁ hp₁ hJ
  have T1 : ST prog w F L m₁ hp₁ h' := ⟨T1.hr.less sl, (let ⟨mc, n, r⟩ := T1.frm; ⟨mc, n, fun y v e => r y v (sm y v e)⟩), T1.fl, by
    cases q : hp₁ L with
    | none => rfl
    | some o => have := sl _ _ q; rw [T1.hl] at this; cases this⟩
  refine wpAny_mono (turn' F { s with heap := h', toks := tk' } hS T1) (fun b s₂ ⟨hp₂, h2, tk2, e2, T2, q⟩ => ?_) fun _ _ z => z.elim
  subst e2
  cases b with
  | false =>
    rw [if_neg (by decide)]
    exact wpAny_execs_nil ⟨.next, m₁, hp₂, h2, tk2, rfl, T2, rfl, q.2 rfl⟩
  | true =>
    rw [if_pos rfl]
    refine wpAny_mono (q.1 rfl F { s with heap := h2, toks := tk2 } hS T2) (fun f s₃ ⟨af, m3, hp3, h3, tk3, e3, T3, R3, q3⟩ => ?_) fun _ _ z => z.elim
    subst e3
    cases af with
    | next => cases R3; obtain ⟨k, hk, j⟩ := q3; exact ⟨k, hk, m3, hp3, h3, tk3, rfl, T3, j⟩
    | cont => cases R3; obtain ⟨k, hk, j⟩ := q3; exact ⟨k, hk, m3, hp3, h3, tk3, rfl, T3, j⟩
    | brk => cases R3; exact ⟨.next, m3, hp3, h3, tk3, rfl, T3, rfl, q3⟩
    | ret v => obtain ⟨vc, rfl, r⟩ := R3; exact ⟨.ret v, m3, hp3, h3, tk3, rfl, T3, ⟨vc, rfl, r⟩, q3⟩
end
end Mine
end
section
open PySem PySem.W PyProof.Rows PySem.Calls
namespace Mine

def Own (F : Fz) (L : Addr) (hp : Hp) (own : List Addr) : Prop := ∀ b ∈ own, F b = none ∧ hp b = none ∧ b ≠ L
open Classical in
noncomputable def addFs (F : Fz) (h : Heap) (own : List Addr) : Fz := fun a => if a ∈ own then h.get? a else F a

section
variable {prog : Program} {w : World} {h₁ : Heap} {F : Fz} {L : Addr} {m : Lm} {hp : Hp} {h : Heap} {own : List Addr}
theorem Stat.adds (x : Stat h₁ F) (o : Own F L hp own) : Stat h₁ (addFs F h own) := fun a ob e => by
  unfold addFs
  rw [if_neg (fun z => by have := (o a z).1; rw [x a ob e] at this; cases this)]; exact x a ob e
theorem ST.adds (x : ST prog w F L m hp h) (o : Own F L hp own) : ST prog w (addFs F h own) L m hp h := by
  refine ⟨⟨fun a ob e => ?_, fun a ob e => ⟨?_, (x.hr.ob a ob e).2⟩⟩, x.frm, ?_, x.hl⟩
  · unfold addFs at e
    split at e
    · exact e
    · exact x.hr.fz a ob e
  · unfold addFs
    rw [if_neg (fun z => by have := (o a z).2.1; rw [e] at this; cases this)]; exact (x.hr.ob a ob e).1
  · unfold addFs
    rw [if_neg (fun z => (o L z).2.2 rfl)]; exact x.fl
theorem ST.dels {m' : Lm} {hp' : Hp} {h' : Heap} (x : ST prog w (addFs F h own) L m' hp' h') (o : Own F L hp own) (hs : ∀ b ∈ own, ∃ ob, h.get? b = some ob) :
    ST prog w F L m' hp' h' ∧ Own F L hp' own ∧ ∀ b ∈ own, ∀ ob, h.get? b = some ob → h'.get? b = some ob := by
  have key : ∀ a, F a ≠ none → addFs F h own a = F a := fun a e => by
    unfold addFs
    rw [if_neg (fun z => e (o a z).1)]
  have inn : ∀ a ∈ own, addFs F h own a = h.get? a := fun a e => by unfold addFs; rw [if_pos e]
  refine ⟨⟨⟨fun a ob e => x.hr.fz a ob ((key a (by rw [e]; nofun)).trans e), fun a ob e => ⟨?_, (x.hr.ob a ob e).2⟩⟩, x.frm, ?_, x.hl⟩, fun b hb => ⟨(o b hb).1, ?_, (o b hb).2.2⟩, fun b hb ob e => x.hr.fz b ob ((inn b hb).trans e)⟩
  · cases q : F a with
    | none => rfl
    | some ob' => have := (x.hr.ob a ob e).1; rw [key a (by rw [q]; nofun), q] at this; cases this
  · cases q : F L with
    | none => rfl
    | some ob' => have := x.fl; rw [key L (by rw [q]; nofun), q] at this; cases this
  · cases q : hp' b with
    | none => rfl
    | some ob =>
      obtain ⟨ob', e⟩ := hs b hb
      have := (x.hr.ob b ob q).1
      rw [inn b hb, e] at this; cases this
end

section
variable {prog : Program} {w : World} {h₁ : Heap} {K : Frag} {A : Around} {L : Addr} {m : Lm} {hp : Hp} {env : Env} {pos : Pos} {k : Nat} {Q : AF → Lm → Hp → Prop}

def PostS (prog : Program) (w : World) (F : Fz) (L : Addr) (Q : AF → Lm → Hp → Prop) (s : Shared) (f : Flow) (s' : Shared) : Prop := ∃ af m' hp' h' tk', s' = { s with heap := h', toks := tk' } ∧ ST prog w F L m' hp' h' ∧ FR af f ∧ Q af m' hp'

theorem for_core {target : Expr} {it : Value} {body : List Stmt} {own : List Addr} {N : Nat} {St : Nat → Heap → Prop} {Src : Hp → Prop} {Step : Nat → Hp → Lm → Lm → Prop} (J : Nat → Lm → Hp → Prop)
    (frame : ∀ i h h', St i h → (∀ b ∈ own, ∀ o, h.get? b = some o → h'.get? b = some o) → St i h')
    (there : ∀ i h, St i h → ∀ b ∈ own, ∃ ob, h.get? b = some ob)
    (next : ∀ i F (s : Shared) m hp, i < N → Src hp → Stat h₁ F → ST prog w F L m hp s.heap → Own F L hp own → St i s.heap →
      wpAny (model prog w) A (pyNext it) (fun r s₁ => ∃ v, r = some v ∧ wpAny (model prog w) A (letOwnedTupleGo target it v) (fun _ s₂ => wpAny (model prog w) A (assign target env v)
        (fun _ s₃ => ∃ m' h' tk, s₃ = { s with heap := h', toks := tk } ∧ ST prog w F L m' hp h' ∧ St (i + 1) h' ∧ Step i hp m m') (fun _ _ => False) s₂) (fun _ _ => False) s₁) (fun _ _ => False) s)
    (last : ∀ F (s : Shared) m hp, Src hp → Stat h₁ F → ST prog w F L m hp s.heap → Own F L hp own → St N s.heap →
      wpAny (model prog w) A (pyNext it) (fun r s₁ => r = none ∧ ∃ h' tk, s₁ = { s with heap := h', toks := tk } ∧ ST prog w F L m hp h') (fun _ _ => False) s)
    (src : ∀ i m hp, J i m hp → Src hp)
    (turn : ∀ i m hp m', i < N → J i m hp → Step i hp m m' → SV prog w h₁ A L m' (execs body env) hp (Back Q (J (i + 1))))
    (done : ∀ m hp, J N m hp → Q .next m hp)
    {F : Fz} {s : Shared} (hS : Stat h₁ F) (hT : ST prog w F L m hp s.heap) (hO : Own F L hp own) (h0 : St 0 s.heap) (hj : J 0 m hp) {E : Value → Shared → Prop} :
    codeAny (model prog w) A (.forLoop target it body [] env) (fun r s' => match r with | .ok f => PostS prog w F L Q s f s' | .error e => E e s') s := by
  refine codeAny_forLoop_any (fun n s' => ∃ i m' hp' h' tk', s' = { s with heap := h', toks := tk' } ∧ i ≤ N ∧ n = N - i ∧ ST prog w F L m' hp' h' ∧ Own F L hp' own ∧ St i h' ∧ J i m' hp') ?_ N ⟨0, m, hp, s.heap, s.toks, rfl, Nat.zero_le _, by omega, hT, hO, h0, hj⟩
  rintro n _ ⟨i, m₁, hp₁, h', tk', rfl, hi, rfl, T1, O1, st1, hJ⟩
  by_cases hlt : i < N
  · refine wpAny_mono (next i F { s with heap := h', toks := tk' } m₁ hp₁ hlt (src _ _ _ hJ) hS T1 O1 st1) (fun r s₁ ⟨v, er, q⟩ => ?_) fun _ _ z => z.elim
    subst er
    refine wpAny_mono q (fun _ s₂ q2 => ?_) fun _ _ z => z.elim
    refine wpAny_mono q2 (fun _ s₃ ⟨m', h3, tk3, e3, T3, st3, stp⟩ => ?_) fun _ _ z => z.elim
    subst e3
    refine wpAny_mono (turn i m₁ hp₁ m' hlt hJ stp (addFs F h3 own) { s with heap := h3, toks := tk3 } (hS.adds O1) (T3.adds O1)) (fun f s₄ ⟨af, m4, hp4, h4, tk4, e4, T4, R4, q4⟩ => ?_) fun _ _ z => z.elim
    subst e4
    obtain ⟨T5, O5, k5⟩ := T4.dels O1 (there _ _ st3)
    cases af with
    | next => cases R4; exact ⟨N - (i + 1), by omega, i + 1, m4, hp4, h4, tk4, rfl, hlt, rfl, T5, O5, frame _ _ _ st3 k5, q4⟩
    | cont => cases R4; exact ⟨N - (i + 1), by omega, i + 1, m4, hp4, h4, tk4, rfl, hlt, rfl, T5, O5, frame _ _ _ st3 k5, q4⟩
    | brk => cases R4; exact ⟨.next, m4, hp4, h4, tk4, rfl, T5, rfl, q4⟩
    | ret v => obtain ⟨vc, rfl, r⟩ := R4; exact ⟨.ret v, m4, hp4, h4, tk4, rfl, T5, ⟨vc, rfl, r⟩, q4⟩
  · have hiN : i = N := by omega
    subst hiN
    refine wpAny_mono (last F { s with heap := h', toks := tk' } m₁ hp₁ (src _ _ _ hJ) hS T1 O1 st1) (fun r s₁ ⟨er, h3, tk3, e3, T3⟩ => ?_) fun _ _ z => z.elim
    subst er e3
    exact wpAny_execs_nil ⟨.next, m₁, hp₁, h3, tk3, rfl, T3, rfl, done _ _ hJ⟩

/-- a changed own address keeps the state -/
theorem ST.own {F : Fz} {h h' : Heap} {own : List Addr} (x : ST prog w F L m hp h) (o : Own F L hp own) (k : ∀ b ob, b ∉ own → h.get? b = some ob → h'.get? b = some ob) : ST prog w F L m hp h' :=
  ⟨⟨fun a ob e => k a ob (fun z => by have := (o a z).1; rw [e] at this; cases this) (x.hr.fz a ob e), fun a ob e => ⟨(x.hr.ob a ob e).1, (x.hr.ob a ob e).2.keep fun ob' q => k a ob' (fun z => by have := (o a z).2.1; rw [e] at this; cases this) q⟩⟩,
    x.frm.keep fun ob e => k L ob (fun z => (o L z).2.2 rfl) e, x.fl, x.hl⟩
theorem ST.newOwn {F : Fz} {h : Heap} {a : Addr} (x : ST prog w F L m hp h) (hs : h.objs.size ≤ a) : F a = none ∧ hp a = none ∧ a ≠ L := by
  obtain ⟨f1, f2⟩ := x.hr.fresh hs
  obtain ⟨_, ⟨oL, _, _, eL, _⟩, _⟩ := x.frm
  exact ⟨f2, f1, fun q => by rw [q] at hs; exact absurd (Heap.lt_size eL) (Nat.not_lt.mpr hs)⟩
end

section
variable {prog : Program} {w : World} {h₁ : Heap} {K : Frag} {A : Around} {L a : Addr} {m : Lm} {hp : Hp} {cn : Str} {cs : Scope} {ccd : Value} {cl : List (Str × Addr)}
  {x y : Str} {pos px py pt : Pos} {k : Nat} {Q : AF → Lm → Hp → Prop}

theorem st_name {v : AV} {vc : Value} {F : Fz} {s : Shared} (hT : ST prog w F L m hp s.heap) (hv : VR v vc) (hk : cs.kind = .function) (hx : (envX cn cs L a ccd cl).kindOf x = some .local) {P : Shared → Prop}
    (h : ∀ h' tk, ST prog w F L ((x, v) :: m) hp h' → Heap.SameBut L s.heap h' → P { s with heap := h', toks := tk }) : wpAny (model prog w) A (storeName (envX cn cs L a ccd cl) x vc) (fun _ s' => P s') (fun _ _ => False) s := by
  obtain ⟨mc, hn, hm⟩ := hT.frm
  refine wpAny_storeName_local hx hn (fun h' hn' hs => h h' _ ⟨⟨fun b o e => ?_, fun b o e => ?_⟩, ⟨_, hn', fun y u e => ?_⟩, hT.fl, hT.hl⟩ hs)
    (by show (cs.kind == .class || (cs.kind == .module && L != mainGlobals)) = false; rw [hk]; rfl)
  · exact hs.extBut b o (fun q => by rw [q] at e; rw [show F L = none from hT.fl] at e; cases e) (hT.hr.fz b o e)
  · exact ⟨(hT.hr.ob b o e).1, (hT.hr.ob b o e).2.keep fun ob q => hs.extBut b ob (fun z => by rw [z] at e; rw [show hp L = none from hT.hl] at e; cases e) q⟩
  · rw [lookup_put] at e
    by_cases q : y = x
    · subst q; simp at e; subst e; exact ⟨vc, by simp, hv⟩
    · rw [if_neg q] at e
      obtain ⟨u', e1, e2⟩ := hm y u e
      exact ⟨u', by simp [q, e1], e2⟩
theorem asg_name {v : AV} {vc : Value} {F : Fz} {s : Shared} (hS : Stat h₁ F) (hT : ST prog w F L m hp s.heap) (hv : VR v vc) (hk : cs.kind = .function) (hx : (envX cn cs L a ccd cl).kindOf x = some .local) {P : Shared → Prop}
    (h : ∀ h' tk, ST prog w F L ((x, v) :: m) hp h' → Heap.SameBut L s.heap h' → P { s with heap := h', toks := tk }) : wpAny (model prog w) A (assign (.Name x px) (envX cn cs L a ccd cl) vc) (fun _ s' => P s') (fun _ _ => False) s := by
  exact wpAny_assign_Name (st_name hT hv hk hx h)

def ForRng (prog : Program) (w : World) (h₁ : Heap) (A : Around) (L : Addr) (x : Str) (body : List Stmt) (env : Env) (Q : AF → Lm → Hp → Prop) (J : Nat → Lm → Hp → Prop) (m : Lm) (v : AV) (hp₁ : Hp) : Prop := ∃ r p q z, v = .ref r ∧ hp₁ r = some (.rng p q z) ∧ Builtin.Range.small p q z = true ∧ 0 ≤ Builtin.Range.rangeSize p q z ∧ J 0 m hp₁ ∧
      (∀ (i : Nat) m hp, (i : Int) < Builtin.Range.rangeSize p q z → J i m hp → SV prog w h₁ A L ((x, .int (p + i * z)) :: m) (execs body env) hp (Back Q (J (i + 1)))) ∧
      (∀ m hp, J (Builtin.Range.rangeSize p q z).toNat m hp → Q .next m hp)
/-- for x in range(..) -/
theorem SV_For_rng {iter : Expr} {body : List Stmt} (hh : A.handled = none) (J : Nat → Lm → Hp → Prop)
    (h : EV prog w h₁ A L m (eval iter (envX cn cs L a ccd cl)) hp (ForRng prog w h₁ A L x body (envX cn cs L a ccd cl) Q J m))
    (hk : cs.kind = .function := by rfl) (hx : (envX cn cs L a ccd cl).kindOf x = some .local := by rfl) (hs : ∀ z, foldedSetIterable iter (envX cn cs L a ccd cl) z = pure z := by intro _; rfl) :
    SV prog w h₁ A L m (exec (.For (.Name x px) iter body [] pos) (envX cn cs L a ccd cl)) hp Q := fun F s hS hT => by
  refine wpAny_For (wpAny_mono (h F s hS hT) (fun va s₁ ⟨av, hp₁, h', tk, e1, T1, R1, r, p, q, z, ea, hr, sm, nn, j0, turn, done⟩ => ?_) fun _ _ e => e) hs
  subst e1 ea
  cases R1
  obtain ⟨_, t, u, v, hR⟩ := T1.hr.ob _ _ hr
  refine wpAny_pyIter_range hR sm ?_
  have W := Walks.range (prog := prog) (w := w) hh h'.objs.size p z (Builtin.Range.rangeSize p q z).toNat
  have hz : ((Builtin.Range.rangeSize p q z).toNat : Int) = Builtin.Range.rangeSize p q z := Int.toNat_of_nonneg nn
  have hN := T1.newOwn (Nat.le_refl _)
  refine for_core (m := m) (hp := hp₁) (own := [h'.objs.size]) (N := (Builtin.Range.rangeSize p q z).toNat) (St := fun i h => IsRangeIter h h'.objs.size (p + (i : Nat) * z) (((Builtin.Range.rangeSize p q z).toNat : Int) - (i : Nat)) z)
    (Src := fun _ => True) (Step := fun i _ m m' => m' = (x, .int (p + i * z)) :: m) J
    (fun i h h'' st k => W.frame i h h'' st k) (fun i h st b hb => by rw [List.mem_singleton.mp hb]; exact ⟨_, st⟩) ?_ ?_ (fun _ _ _ _ => trivial) (fun i m₁ hp₂ m' hi hj e => by subst e; exact turn i m₁ hp₂ (by omega) hj) done hS (T1.hr |> fun _ => ?_) ?_ ?_ j0
  · rintro i F s m hp hi _ hS T O st
    refine W.item i s _ _ hi st fun v h2 tk2 ⟨t, ev⟩ st2 k2 => ⟨v, rfl, ?_⟩
    subst ev
    refine wpAny_pure ?_
    have T2 : ST prog w F L m hp h2 := T.own O (fun b ob hb e => k2 b ob hb e)
    exact asg_name (v := .int (p + i * z)) (s := { s with heap := h2, toks := tk2 }) hS T2 ⟨t, rfl⟩ hk hx fun h3 tk3 T3 sb => ⟨_, h3, tk3, rfl, T3, W.frame _ _ _ st2 fun b hb o e => sb.extBut b o (fun q => (O b hb).2.2 q) e, rfl⟩
  · rintro F s m hp _ hS T O st
    exact W.done s _ _ st fun h2 tk2 k2 => ⟨rfl, h2, tk2, rfl, T.own O fun b ob hb e => k2 b ob hb e⟩
  · exact ⟨T1.hr.keep push_get, T1.frm.keep fun _ e => push_get _ _ e, T1.fl, T1.hl⟩
  · intro b hb; rw [List.mem_singleton.mp hb]; exact hN
  · show IsRangeIter (h'.push _) _ _ _ _
    have e1 : p + ((0 : Nat) : Int) * z = p := by simp
    have e2 : ((Builtin.Range.rangeSize p q z).toNat : Int) - ((0 : Nat) : Int) = Builtin.Range.rangeSize p q z := by rw [hz]; simp
    rw [e1, e2]
    exact Heap.get?_push_size _ rfl

def ForLs (prog : Program) (w : World) (h₁ : Heap) (A : Around) (L : Addr) (x : Str) (body : List Stmt) (env : Env) (Q : AF → Lm → Hp → Prop) (J : Nat → Lm → Hp → Prop) (m : Lm) (v : AV) (hp₁ : Hp) : Prop := ∃ l xs, v = .ref l ∧ (∀ i m hp, J i m hp → hp l = some (.list xs)) ∧ J 0 m hp₁ ∧
      (∀ (i : Nat) m hp v, xs[i]? = some v → J i m hp → SV prog w h₁ A L ((x, v) :: m) (execs body env) hp (Back Q (J (i + 1)))) ∧
      (∀ m hp, J xs.length m hp → Q .next m hp)
/-- for x in a list -/
theorem SV_For_list {iter : Expr} {body : List Stmt} (hh : A.handled = none) (J : Nat → Lm → Hp → Prop)
    (h : EV prog w h₁ A L m (eval iter (envX cn cs L a ccd cl)) hp (ForLs prog w h₁ A L x body (envX cn cs L a ccd cl) Q J m))
    (hk : cs.kind = .function := by rfl) (hx : (envX cn cs L a ccd cl).kindOf x = some .local := by rfl) (hs : ∀ z, foldedSetIterable iter (envX cn cs L a ccd cl) z = pure z := by intro _; rfl) :
    SV prog w h₁ A L m (exec (.For (.Name x px) iter body [] pos) (envX cn cs L a ccd cl)) hp Q := fun F s hS hT => by
  refine wpAny_For (wpAny_mono (h F s hS hT) (fun va s₁ ⟨av, hp₁, h', tk, e1, T1, R1, l, xs, ea, src, j0, turn, done⟩ => ?_) fun _ _ e => e) hs
  subst e1 ea
  cases R1
  obtain ⟨_, vs, pl, _⟩ := T1.hr.ob _ _ (src _ _ _ j0)
  refine wpAny_pyIter_list pl.isList ?_
  have hN := T1.newOwn (Nat.le_refl _)
  refine for_core (m := m) (hp := hp₁) (own := [h'.objs.size]) (N := xs.length) (St := fun i h => h.IsListIter h'.objs.size l i)
    (Src := fun hp => hp l = some (.list xs)) (Step := fun i _ m m' => ∃ v, xs[i]? = some v ∧ m' = (x, v) :: m) J
    (fun i h h'' st k => st.at fun o e => k _ (List.mem_singleton.mpr rfl) o e) (fun i h st b hb => by rw [List.mem_singleton.mp hb]; obtain ⟨o, e, _⟩ := st; exact ⟨o, e⟩) ?_ ?_ src (fun i m₁ hp₂ m' hi hj e => by obtain ⟨v, e1, rfl⟩ := e; exact turn i m₁ hp₂ v e1 hj) done hS ?_ ?_ ?_ j0
  · rintro i F s m hp hi sr hS T O st
    obtain ⟨_, ws, pl', r⟩ := T.hr.ob _ _ sr
    obtain ⟨vc, g1, g2⟩ := r.get (List.getElem?_eq_getElem hi)
    refine wpAny_pyNext_list_item st pl'.isList (x := vc) (by simpa using g1) fun h2 st2 sb2 => ⟨vc, rfl, wpAny_pure ?_⟩
    have T2 : ST prog w F L m hp h2 := T.own O (fun b ob hb e => sb2.extBut b ob (fun q => hb (by rw [q]; exact List.mem_singleton.mpr rfl)) e)
    refine asg_name (v := xs[i]) (s := { s with heap := h2 }) hS T2 g2 hk hx fun h3 tk3 T3 sb => ⟨_, h3, tk3, rfl, T3, ?_, _, List.getElem?_eq_getElem hi, rfl⟩
    exact st2.at fun o e => sb.extBut _ o (fun q => (O _ (List.mem_singleton.mpr rfl)).2.2 q) e
  · rintro F s m hp sr hS T O st
    obtain ⟨_, ws, pl', r⟩ := T.hr.ob _ _ sr
    exact wpAny_pyNext_list_end hh st pl'.isList (by simp [r.length]) fun h2 k2 => ⟨rfl, h2, s.toks, rfl, T.own O fun b ob hb e => k2 b ob (fun q => hb (by rw [q]; exact List.mem_singleton.mpr rfl)) e⟩
  · exact ⟨T1.hr.keep push_get, T1.frm.keep fun _ e => push_get _ _ e, T1.fl, T1.hl⟩
  · intro b hb; rw [List.mem_singleton.mp hb]; exact hN
  · exact ⟨_, Heap.get?_push_size _ rfl, rfl, rfl⟩

def ForTup (prog : Program) (w : World) (h₁ : Heap) (A : Around) (L : Addr) (x : Str) (body : List Stmt) (env : Env) (Q : AF → Lm → Hp → Prop) (J : Nat → Lm → Hp → Prop) (m : Lm) (v : AV) (hp₁ : Hp) : Prop := ∃ l xs, v = .ref l ∧ (∀ i m hp, J i m hp → hp l = some (.tup xs)) ∧ J 0 m hp₁ ∧
      (∀ (i : Nat) m hp v, xs[i]? = some v → J i m hp → SV prog w h₁ A L ((x, v) :: m) (execs body env) hp (Back Q (J (i + 1)))) ∧
      (∀ m hp, J xs.length m hp → Q .next m hp)
/-- for x in a tuple -/
theorem SV_For_tup {iter : Expr} {body : List Stmt} (hh : A.handled = none) (J : Nat → Lm → Hp → Prop)
    (h : EV prog w h₁ A L m (eval iter (envX cn cs L a ccd cl)) hp (ForTup prog w h₁ A L x body (envX cn cs L a ccd cl) Q J m))
    (hk : cs.kind = .function := by rfl) (hx : (envX cn cs L a ccd cl).kindOf x = some .local := by rfl) (hs : ∀ z, foldedSetIterable iter (envX cn cs L a ccd cl) z = pure z := by intro _; rfl) :
    SV prog w h₁ A L m (exec (.For (.Name x px) iter body [] pos) (envX cn cs L a ccd cl)) hp Q := fun F s hS hT => by
  refine wpAny_For (wpAny_mono (h F s hS hT) (fun va s₁ ⟨av, hp₁, h', tk, e1, T1, R1, l, xs, ea, src, j0, turn, done⟩ => ?_) fun _ _ e => e) hs
  subst e1 ea
  cases R1
  obtain ⟨_, vs, pl, _⟩ := T1.hr.ob _ _ (src _ _ _ j0)
  refine wpAny_pyIter_tuple pl ?_
  have hN := T1.newOwn (Nat.le_refl _)
  have hne : ∀ {F : Fz} {s : Shared} {m : Lm} {hp : Hp}, hp l = some (.tup xs) → Own F L hp [h'.objs.size] → l ≠ h'.objs.size := fun sr O q => by
    have := (O _ (List.mem_singleton.mpr rfl)).2.1
    rw [← q, sr] at this; cases this
  refine for_core (m := m) (hp := hp₁) (own := [h'.objs.size]) (N := xs.length) (St := fun i h => h.IsTupleIter h'.objs.size l i)
    (Src := fun hp => hp l = some (.tup xs)) (Step := fun i _ m m' => ∃ v, xs[i]? = some v ∧ m' = (x, v) :: m) J
    (fun i h h'' st k => let ⟨o, e, r⟩ := st; ⟨o, k _ (List.mem_singleton.mpr rfl) o e, r⟩) (fun i h st b hb => by rw [List.mem_singleton.mp hb]; obtain ⟨o, e, _⟩ := st; exact ⟨o, e⟩) ?_ ?_ src (fun i m₁ hp₂ m' hi hj e => by obtain ⟨v, e1, rfl⟩ := e; exact turn i m₁ hp₂ v e1 hj) done hS ?_ ?_ ?_ j0
  · rintro i F s m hp hi sr hS T O st
    obtain ⟨_, ws, pl', r⟩ := T.hr.ob _ _ sr
    obtain ⟨vc, g1, g2⟩ := r.get (List.getElem?_eq_getElem hi)
    refine wpAny_pyNext_tuple_item st pl' (x := vc) (by simpa using g1) fun h2 st2 sb2 => ⟨vc, rfl, wpAny_pure ?_⟩
    have T2 : ST prog w F L m hp h2 := T.own O (fun b ob hb e => sb2.extBut b ob (fun q => hb (by rw [q]; exact List.mem_singleton.mpr rfl)) e)
    refine asg_name (v := xs[i]) (s := { s with heap := h2 }) hS T2 g2 hk hx fun h3 tk3 T3 sb => ⟨_, h3, tk3, rfl, T3, ?_, _, List.getElem?_eq_getElem hi, rfl⟩
    obtain ⟨o, e, r⟩ := st2
    exact ⟨o, sb.extBut _ o (fun q => (O _ (List.mem_singleton.mpr rfl)).2.2 q) e, r⟩
  · rintro F s m hp sr hS T O st
    obtain ⟨_, ws, pl', r⟩ := T.hr.ob _ _ sr
    have W := Walks.tuple (prog := prog) (w := w) hh h'.objs.size l (hne (s := s) (m := m) sr O) ws.toArray
    have e : ws.toArray.size = xs.length := by simp [r.length]
    rw [e] at W
    exact W.done s _ _ ⟨st, pl'⟩ fun h2 tk2 k2 => ⟨rfl, h2, tk2, rfl, T.own O fun b ob hb e => k2 b ob hb e⟩
  · exact ⟨T1.hr.keep push_get, T1.frm.keep fun _ e => push_get _ _ e, T1.fl, T1.hl⟩
  · intro b hb; rw [List.mem_singleton.mp hb]; exact hN
  · exact ⟨_, Heap.get?_push_size _ rfl, rfl, rfl⟩

/-- two names at once -/
theorem asg_pair {u v : AV} {T : Addr} {uc vc : Value} {F : Fz} {s : Shared} (hh : A.handled = none) (hS : Stat h₁ F) (hT : ST prog w F L m hp s.heap) (ht : s.heap.IsTuple T #[uc, vc]) (hu : VR u uc) (hv : VR v vc) (hk : cs.kind = .function) (hx : (envX cn cs L a ccd cl).kindOf x = some .local)
    (hy : (envX cn cs L a ccd cl).kindOf y = some .local) {P : Shared → Prop}
    (h : ∀ h' tk, ST prog w F L ((y, v) :: (x, u) :: m) hp h' → (∀ b o, b ≠ L → s.heap.get? b = some o → h'.get? b = some o) → P { s with heap := h', toks := tk }) :
    wpAny (model prog w) A (assign (.Tuple [.Name x px, .Name y py] k pt) (envX cn cs L a ccd cl) (.ref T)) (fun _ s' => P s') (fun _ _ => False) s := by
  rw [arm_assign_Tuple]
  refine wpAny_bind (wpAny_standAt ?_)
  show wpAny _ A (do let __do_lift ← holding [.ref T] (unpackItems (.ref T) 2 none); assignInOrder [assign (.Name x px) (envX cn cs L a ccd cl), assign (.Name y py) (envX cn cs L a ccd cl)] __do_lift) _ _ _
  refine wpAny_bind (wpAny_holding (unpackItems_tuple (items := #[uc, vc]) hh ht fun h1 hk1 => ?_))
  have T1 : ST prog w F L m hp h1 := hT.own (own := [s.heap.objs.size]) (fun b hb => by rw [List.mem_singleton.mp hb]; exact hT.newOwn (Nat.le_refl _)) fun b ob hb e => hk1 b ob (fun q => hb (by rw [q]; exact List.mem_singleton.mpr rfl)) e
  have k1 : ∀ b o, s.heap.get? b = some o → h1.get? b = some o := fun b o e => hk1 b o (Nat.ne_of_lt (Heap.lt_size e)) e
  refine PyProof.Rows.assignInOrder_cons (asg_name (s := { s with heap := h1 }) hS T1 hu hk hx fun h2 tk2 T2 s2 => ?_)
  refine PyProof.Rows.assignInOrder_cons (asg_name (s := { s with heap := h2, toks := tk2 }) hS T2 hv hk hy fun h3 tk3 T3 s3 => ?_)
  exact PyProof.Rows.assignInOrder_nil (h h3 tk3 T3 fun b o hb e => s3.extBut b o hb (s2.extBut b o hb (k1 b o e)))

theorem VRs.tup2 {u v : AV} {h : Heap} {T : Addr} (x : OR prog w h T (.tup [u, v])) : ∃ uc vc, h.IsTuple T #[uc, vc] ∧ VR u uc ∧ VR v vc := by
  obtain ⟨vs, pl, r⟩ := x
  obtain ⟨uc, vc, rfl, r1, r2⟩ := r.two
  exact ⟨uc, vc, pl, r1, r2⟩
theorem VRs.tup3 {u v z : AV} {h : Heap} {T : Addr} (x : OR prog w h T (.tup [u, v, z])) : ∃ uc vc zc, h.IsTuple T #[uc, vc, zc] ∧ VR u uc ∧ VR v vc ∧ VR z zc := by
  obtain ⟨vs, pl, r⟩ := x
  obtain ⟨uc, vc, zc, rfl, r1, r2, r3⟩ := r.three
  exact ⟨uc, vc, zc, pl, r1, r2, r3⟩

/-- x, y = f(..) -/
theorem SV_AsgTup2 {value : Expr} (hh : A.handled = none)
    (h : EV prog w h₁ A L m (eval value (envX cn cs L a ccd cl)) hp fun t hp₁ => ∃ T u v, t = .ref T ∧ hp₁ T = some (.tup [u, v]) ∧ Q .next ((y, v) :: (x, u) :: m) hp₁)
    (hk : cs.kind = .function := by rfl) (hx : (envX cn cs L a ccd cl).kindOf x = some .local := by rfl) (hy : (envX cn cs L a ccd cl).kindOf y = some .local := by rfl)
    (hs : swapsWithSole [.Tuple [.Name x px, .Name y py] k pt] value pos.line (envX cn cs L a ccd cl) = pure false := by rfl)
    (hw : swappedStores [.Tuple [.Name x px, .Name y py] k pt] value (envX cn cs L a ccd cl) = pure none := by rfl) :
    SV prog w h₁ A L m (exec (.Assign [.Tuple [.Name x px, .Name y py] k pt] value pos) (envX cn cs L a ccd cl)) hp Q := fun F s hS hT => by
  refine Assign_Tuple (wpAny_mono (h F s hS hT) (fun va s₁ ⟨av, hp₁, h', tk, e1, T1, R1, T, u, v, ea, ht, q⟩ => ?_) fun _ _ z => z) hs hw
  subst e1 ea
  cases R1
  obtain ⟨uc, vc, tp, r1, r2⟩ := VRs.tup2 (T1.hr.ob _ _ ht).2
  exact asg_pair (s := { s with heap := h', toks := tk }) hh hS T1 tp r1 r2 hk hx hy fun h2 tk2 T2 _ => ⟨.next, _, hp₁, h2, tk2, rfl, T2, rfl, q⟩
/-- x, y = (.., ..): the stores go backwards -/
theorem SV_AsgSw2 {value : Expr} (hh : A.handled = none)
    (h : EV prog w h₁ A L m (eval value (envX cn cs L a ccd cl)) hp fun t hp₁ => ∃ T u v, t = .ref T ∧ hp₁ T = some (.tup [u, v]) ∧ Q .next ((x, u) :: (y, v) :: m) hp₁)
    (hk : cs.kind = .function := by rfl) (hx : (envX cn cs L a ccd cl).kindOf x = some .local := by rfl) (hy : (envX cn cs L a ccd cl).kindOf y = some .local := by rfl)
    (hs : swapsWithSole [.Tuple [.Name x px, .Name y py] k pt] value pos.line (envX cn cs L a ccd cl) = pure false := by rfl)
    (hw : swappedStores [.Tuple [.Name x px, .Name y py] k pt] value (envX cn cs L a ccd cl) = pure (some [x, y]) := by rfl) :
    SV prog w h₁ A L m (exec (.Assign [.Tuple [.Name x px, .Name y py] k pt] value pos) (envX cn cs L a ccd cl)) hp Q := fun F s hS hT => by
  refine Assign_Tuple_swapped (wpAny_mono (h F s hS hT) (fun va s₁ ⟨av, hp₁, h', tk, e1, T1, R1, T, u, v, ea, ht, q⟩ => ?_) fun _ _ z => z) hs hw
  subst e1 ea
  cases R1
  obtain ⟨uc, vc, tp, r1, r2⟩ := VRs.tup2 (T1.hr.ob _ _ ht).2
  refine unpackItems_tuple (s := { s with heap := h', toks := tk }) (items := #[uc, vc]) hh tp fun h1 hk1 => ?_
  have T1' : ST prog w F L m hp₁ h1 := T1.own (own := [h'.objs.size]) (fun b hb => by rw [List.mem_singleton.mp hb]; exact T1.newOwn (Nat.le_refl _)) fun b ob hb e => hk1 b ob (fun q => hb (by rw [q]; exact List.mem_singleton.mpr rfl)) e
  refine PyProof.Rows.assignInOrder_cons (PyProof.Rows.bindName_ (st_name (s := { s with heap := h1, toks := tk }) T1' r2 hk hy fun h2 tk2 T2 s2 => ?_))
  refine PyProof.Rows.assignInOrder_cons (PyProof.Rows.bindName_ (st_name (s := { s with heap := h2, toks := tk2 }) T2 r1 hk hx fun h3 tk3 T3 s3 => ?_))
  exact PyProof.Rows.assignInOrder_nil ⟨.next, _, hp₁, h3, tk3, rfl, T3, rfl, q⟩
theorem SV_AsgSw3 {value : Expr} {z : Str} {pz : Pos} (hh : A.handled = none)
    (h : EV prog w h₁ A L m (eval value (envX cn cs L a ccd cl)) hp fun t hp₁ => ∃ T u v y', t = .ref T ∧ hp₁ T = some (.tup [u, v, y']) ∧ Q .next ((x, u) :: (y, v) :: (z, y') :: m) hp₁)
    (hk : cs.kind = .function := by rfl) (hx : (envX cn cs L a ccd cl).kindOf x = some .local := by rfl) (hy : (envX cn cs L a ccd cl).kindOf y = some .local := by rfl) (hz : (envX cn cs L a ccd cl).kindOf z = some .local := by rfl)
    (hs : swapsWithSole [.Tuple [.Name x px, .Name y py, .Name z pz] k pt] value pos.line (envX cn cs L a ccd cl) = pure false := by rfl)
    (hw : swappedStores [.Tuple [.Name x px, .Name y py, .Name z pz] k pt] value (envX cn cs L a ccd cl) = pure (some [x, y, z]) := by rfl) :
    SV prog w h₁ A L m (exec (.Assign [.Tuple [.Name x px, .Name y py, .Name z pz] k pt] value pos) (envX cn cs L a ccd cl)) hp Q := fun F s hS hT => by
  refine Assign_Tuple_swapped (wpAny_mono (h F s hS hT) (fun va s₁ ⟨av, hp₁, h', tk, e1, T1, R1, T, u, v, y', ea, ht, q⟩ => ?_) fun _ _ z => z) hs hw
  subst e1 ea
  cases R1
  obtain ⟨uc, vc, zc, tp, r1, r2, r3⟩ := VRs.tup3 (T1.hr.ob _ _ ht).2
  refine unpackItems_tuple (s := { s with heap := h', toks := tk }) (items := #[uc, vc, zc]) hh tp fun h1 hk1 => ?_
  have T1' : ST prog w F L m hp₁ h1 := T1.own (own := [h'.objs.size]) (fun b hb => by rw [List.mem_singleton.mp hb]; exact T1.newOwn (Nat.le_refl _)) fun b ob hb e => hk1 b ob (fun q => hb (by rw [q]; exact List.mem_singleton.mpr rfl)) e
  refine PyProof.Rows.assignInOrder_cons (PyProof.Rows.bindName_ (st_name (s := { s with heap := h1, toks := tk }) T1' r3 hk hz fun h2 tk2 T2 s2 => ?_))
  refine PyProof.Rows.assignInOrder_cons (PyProof.Rows.bindName_ (st_name (s := { s with heap := h2, toks := tk2 }) T2 r2 hk hy fun h3 tk3 T3 s3 => ?_))
  refine PyProof.Rows.assignInOrder_cons (PyProof.Rows.bindName_ (st_name (s := { s with heap := h3, toks := tk3 }) T3 r1 hk hx fun h4 tk4 T4 s4 => ?_))
  exact PyProof.Rows.assignInOrder_nil ⟨.next, _, hp₁, h4, tk4, rfl, T4, rfl, q⟩

def ForPairs (prog : Program) (w : World) (h₁ : Heap) (A : Around) (L : Addr) (x : Str) (y : Str) (body : List Stmt) (env : Env) (Q : AF → Lm → Hp → Prop) (J : Nat → Lm → Hp → Prop) (m : Lm) (v : AV) (hp₁ : Hp) : Prop := ∃ l xs, v = .ref l ∧ (∀ i m hp, J i m hp → hp l = some (.list xs) ∧ ∀ (j : Nat) z, xs[j]? = some z → ∃ T u v, z = .ref T ∧ hp T = some (.tup [u, v])) ∧ J 0 m hp₁ ∧
      (∀ (i : Nat) m hp T u v, xs[i]? = some (.ref T) → hp T = some (.tup [u, v]) → J i m hp → SV prog w h₁ A L ((y, v) :: (x, u) :: m) (execs body env) hp (Back Q (J (i + 1)))) ∧
      (∀ m hp, J xs.length m hp → Q .next m hp)
/-- for x, y in a list of pairs -/
theorem SV_For_pairs {iter : Expr} {body : List Stmt} (hh : A.handled = none) (J : Nat → Lm → Hp → Prop)
    (h : EV prog w h₁ A L m (eval iter (envX cn cs L a ccd cl)) hp (ForPairs prog w h₁ A L x y body (envX cn cs L a ccd cl) Q J m))
    (hk : cs.kind = .function := by rfl) (hx : (envX cn cs L a ccd cl).kindOf x = some .local := by rfl) (hy : (envX cn cs L a ccd cl).kindOf y = some .local := by rfl)
    (hs : ∀ z, foldedSetIterable iter (envX cn cs L a ccd cl) z = pure z := by intro _; rfl) :
    SV prog w h₁ A L m (exec (.For (.Tuple [.Name x px, .Name y py] k pt) iter body [] pos) (envX cn cs L a ccd cl)) hp Q := fun F s hS hT => by
  refine wpAny_For (wpAny_mono (h F s hS hT) (fun va s₁ ⟨av, hp₁, h', tk, e1, T1, R1, l, xs, ea, src, j0, turn, done⟩ => ?_) fun _ _ e => e) hs
  subst e1 ea
  cases R1
  obtain ⟨_, vs, pl, _⟩ := T1.hr.ob _ _ (src _ _ _ j0).1
  refine wpAny_pyIter_list pl.isList ?_
  have hN := T1.newOwn (Nat.le_refl _)
  refine for_core (m := m) (hp := hp₁) (own := [h'.objs.size]) (N := xs.length) (St := fun i h => h.IsListIter h'.objs.size l i)
    (Src := fun hp => hp l = some (.list xs) ∧ ∀ (j : Nat) z, xs[j]? = some z → ∃ T u v, z = .ref T ∧ hp T = some (.tup [u, v])) (Step := fun i hp m m' => ∃ T u v, xs[i]? = some (.ref T) ∧ hp T = some (.tup [u, v]) ∧ m' = (y, v) :: (x, u) :: m) J
    (fun i h h'' st k => st.at fun o e => k _ (List.mem_singleton.mpr rfl) o e) (fun i h st b hb => by rw [List.mem_singleton.mp hb]; obtain ⟨o, e, _⟩ := st; exact ⟨o, e⟩) ?_ ?_ src (fun i m₁ hp₂ m' hi hj e => by obtain ⟨T, u, v, e1, e2, rfl⟩ := e; exact turn i m₁ hp₂ T u v e1 e2 hj) done hS ?_ ?_ ?_ j0
  · rintro i F s m hp hi sr hS T O st
    obtain ⟨_, ws, pl', r⟩ := T.hr.ob _ _ sr.1
    obtain ⟨vc, g1, g2⟩ := r.get (List.getElem?_eq_getElem hi)
    obtain ⟨Tp, u, v, et, ht⟩ := sr.2 i _ (List.getElem?_eq_getElem hi)
    rw [et] at g2
    cases g2
    refine wpAny_pyNext_list_item st pl'.isList (x := .ref Tp) (by simpa using g1) fun h2 st2 sb2 => ⟨.ref Tp, rfl, wpAny_letOwnedTupleGo_listiter st2 ?_⟩
    have T2 : ST prog w F L m hp h2 := T.own O (fun b ob hb e => sb2.extBut b ob (fun q => hb (by rw [q]; exact List.mem_singleton.mpr rfl)) e)
    obtain ⟨uc, vc, tp, r1, r2⟩ := VRs.tup2 (T2.hr.ob _ _ ht).2
    refine asg_pair (s := { s with heap := h2 }) hh hS T2 tp r1 r2 hk hx hy fun h3 tk3 T3 sb => ⟨_, h3, tk3, rfl, T3, ?_, Tp, u, v, (List.getElem?_eq_getElem hi).trans (congrArg some et), ht, rfl⟩
    exact st2.at fun o e => sb _ o (fun q => (O _ (List.mem_singleton.mpr rfl)).2.2 q) e
  · rintro F s m hp sr hS T O st
    obtain ⟨_, ws, pl', r⟩ := T.hr.ob _ _ sr.1
    exact wpAny_pyNext_list_end hh st pl'.isList (by simp [r.length]) fun h2 k2 => ⟨rfl, h2, s.toks, rfl, T.own O fun b ob hb e => k2 b ob (fun q => hb (by rw [q]; exact List.mem_singleton.mpr rfl)) e⟩
  · exact ⟨T1.hr.keep push_get, T1.frm.keep fun _ e => push_get _ _ e, T1.fl, T1.hl⟩
  · intro b hb; rw [List.mem_singleton.mp hb]; exact hN
  · exact ⟨_, Heap.get?_push_size _ rfl, rfl, rfl⟩

def ForEnum (prog : Program) (w : World) (h₁ : Heap) (A : Around) (L : Addr) (x : Str) (y : Str) (body : List Stmt) (env : Env) (Q : AF → Lm → Hp → Prop) (J : Nat → Lm → Hp → Prop) (m : Lm) (v : AV) (hp₁ : Hp) : Prop := ∃ l xs, v = .ref l ∧ (∀ i m hp, J i m hp → hp l = some (.list xs)) ∧ J 0 m hp₁ ∧
      (∀ (i : Nat) m hp v, xs[i]? = some v → J i m hp → SV prog w h₁ A L ((y, v) :: (x, .int i) :: m) (execs body env) hp (Back Q (J (i + 1)))) ∧
      (∀ m hp, J xs.length m hp → Q .next m hp)
/-- for x, y in enumerate(a list) -/
theorem SV_For_enum {f : Expr} {e : Expr} {pc : Pos} {body : List Stmt} (hh : A.handled = none) (J : Nat → Lm → Hp → Prop)
    (hf : ∀ R : AV → Hp → Prop, R (.ty "enumerate") hp → EV prog w h₁ A L m (eval f (envX cn cs L a ccd cl)) hp R)
    (h : EV prog w h₁ A L m (eval e (envX cn cs L a ccd cl)) hp (ForEnum prog w h₁ A L x y body (envX cn cs L a ccd cl) Q J m))
    (he : eval (.Call f [e] [] pc) (envX cn cs L a ccd cl) = (do callWith pc (← eval f (envX cn cs L a ccd cl)) [] (backTo pc (starEach [e] (envX cn cs L a ccd cl))) (backToKw pc (keywordEach [] (envX cn cs L a ccd cl)))) := by rfl)
    (hse : starEach [e] (envX cn cs L a ccd cl) = (false, eval e (envX cn cs L a ccd cl)) :: starEach [] (envX cn cs L a ccd cl) := by rfl) (hplain : (backTo pc (starEach [] (envX cn cs L a ccd cl))).any (·.1) = false := by rfl)
    (hk : cs.kind = .function := by rfl) (hx : (envX cn cs L a ccd cl).kindOf x = some .local := by rfl) (hy : (envX cn cs L a ccd cl).kindOf y = some .local := by rfl)
    (hs : ∀ z, foldedSetIterable (.Call f [e] [] pc) (envX cn cs L a ccd cl) z = pure z := by intro _; rfl) :
    SV prog w h₁ A L m (exec (.For (.Tuple [.Name x px, .Name y py] k pt) (.Call f [e] [] pc) body [] pos) (envX cn cs L a ccd cl)) hp Q := fun F s hS hT => by
  refine wpAny_For (Call_ (wpAny_mono (hf (fun v hp' => v = .ty "enumerate" ∧ hp' = hp) ⟨rfl, rfl⟩ F s hS hT) (fun va s₁ ⟨av, hp₀, h₀, tk₀, e0, T0, R0, ea, eh⟩ => ?_) fun _ _ e => e) he) hs
  subst e0 ea eh
  cases R0
  refine PyProof.Rows.callWith_type1 (args_cons (wpAny_mono (h F { s with heap := h₀, toks := tk₀ } hS T0) (fun va s₁ ⟨av, hp₁, h', tk, e1, T1, R1, l, xs, ea, src, j0, turn, done⟩ => ?_) fun _ _ e => e) hse) hse hplain
  subst e1 ea
  cases R1
  refine args_nil ?_
  obtain ⟨_, vs, ⟨n, g⟩, _⟩ := T1.hr.ob _ _ (src _ _ _ j0)
  refine call_enumerate_1 (s := { s with heap := h', toks := tk }) g fun h2 ie il sz k2 => wpAny_pyIter_enum ie ?_
  have hN1 := T1.newOwn (Nat.le_refl h'.objs.size)
  have hN2 := T1.newOwn (Nat.le_succ h'.objs.size)
  have own2 : ∀ {F : Fz} {hp : Hp}, Own F L hp [h'.objs.size + 1, h'.objs.size] → ∀ b, (b = h'.objs.size + 1 ∨ b = h'.objs.size) → F b = none ∧ hp b = none ∧ b ≠ L := fun O b hb => O b (by rcases hb with rfl | rfl <;> simp)
  have hei : h'.objs.size + 1 ≠ h'.objs.size := Nat.succ_ne_self _
  refine for_core (m := m) (hp := hp₁) (own := [h'.objs.size + 1, h'.objs.size]) (N := xs.length) (St := fun i h => (∃ old, IsEnum h (h'.objs.size + 1) h'.objs.size i old) ∧ h.IsListIter h'.objs.size l i)
    (Src := fun hp => hp l = some (.list xs)) (Step := fun i _ m m' => ∃ v, xs[i]? = some v ∧ m' = (y, v) :: (x, .int i) :: m) J
    (fun i h h'' st k => ⟨let ⟨old, q⟩ := st.1; ⟨old, k _ (by simp) _ q⟩, st.2.at fun o e => k _ (by simp) o e⟩)
    (fun i h st b hb => by
      obtain ⟨⟨old, q⟩, o, e, _⟩ := st
      rcases List.mem_cons.mp hb with rfl | hb
      · exact ⟨_, q⟩
      · rw [List.mem_singleton.mp hb]; exact ⟨o, e⟩) ?_ ?_ src (fun i m₁ hp₂ m' hi hj e => by obtain ⟨v, e1, rfl⟩ := e; exact turn i m₁ hp₂ v e1 hj) done hS ?_ ?_ ?_ j0
  · rintro i F s m hp hi sr hS T O ⟨⟨old, en⟩, it⟩
    obtain ⟨_, ws, pl', r⟩ := T.hr.ob _ _ sr
    obtain ⟨vc, g1, g2⟩ := r.get (List.getElem?_eq_getElem hi)
    refine wpAny_pyNext_enum_item en it pl'.isList (x := vc) (by simpa using g1) hei fun h3 eo it3 tp sz3 k3 => ⟨.ref s.heap.objs.size, rfl, ?_⟩
    refine wpAny_letOwnedTupleGo_enum eo fun h4 en4 sb4 => ?_
    have k34 : ∀ b ob, b ∉ [h'.objs.size + 1, h'.objs.size] → s.heap.get? b = some ob → h4.get? b = some ob := fun b ob hb e =>
      sb4.extBut b ob (fun q => hb (by simp [q])) (k3 b ob (fun q => hb (by simp [q])) (fun q => hb (by simp [q])) e)
    have T4 : ST prog w F L m hp h4 := T.own O k34
    have tne : s.heap.objs.size ≠ h'.objs.size + 1 := Nat.ne_of_gt (Heap.lt_size en)
    have tp4 : h4.IsTuple s.heap.objs.size #[.int i s.toks, vc] := ⟨_, sb4.extBut _ _ tne tp, rfl, 0, rfl⟩
    refine asg_pair (u := .int i) (s := { s with heap := h4, toks := s.toks + 1 }) hh hS T4 tp4 ⟨s.toks, rfl⟩ g2 hk hx hy fun h5 tk5 T5 sb => ⟨_, h5, tk5, rfl, T5, ⟨⟨vc, ?_⟩, ?_⟩, _, List.getElem?_eq_getElem hi, rfl⟩
    · have := sb _ _ (own2 O _ (.inl rfl)).2.2 en4
      simpa using this
    · exact (it3.at fun o e => sb4.extBut _ o hei.symm e).at fun o e => sb _ o (own2 O _ (.inr rfl)).2.2 e
  · rintro F s m hp sr hS T O ⟨⟨old, en⟩, it⟩
    obtain ⟨_, ws, pl', r⟩ := T.hr.ob _ _ sr
    exact wpAny_pyNext_enum_end hh en it pl'.isList (by simp [r.length]) fun h2 k2 => ⟨rfl, h2, s.toks, rfl, T.own O fun b ob hb e => k2 b ob (fun q => hb (by rw [q]; simp)) e⟩
  · exact ⟨T1.hr.keep k2, T1.frm.keep fun _ e => k2 _ _ e, T1.fl, T1.hl⟩
  · intro b hb
    rcases List.mem_cons.mp hb with rfl | hb
    · exact hN2
    · rw [List.mem_singleton.mp hb]; exact hN1
  · exact ⟨⟨.none, ie⟩, il⟩
end
end Mine
end
section
open PySem PySem.W PyProof.Rows PySem.Calls
namespace Mine

section
variable {prog : Program} {w : World} {h₁ : Heap} {K : Frag} {A : Around} {L : Addr} {m : Lm} {hp : Hp} {Q : AV → Hp → Prop}

theorem Room.less {A : Around} {n k : Nat} (x : Room A n) (h : k ≤ n) : Room A k := ⟨x.hh, by have := x.hd; omega, by have := x.hu; omega⟩
theorem Room.deeper {A : Around} {n : Nat} {env : Env} (x : Room A (n + 1)) : Room (A.deeper env) n := ⟨x.hh, by have := x.hd; show A.depth + 1 + n < _; omega, by have := x.hu; show A.units + 3 + _ < _; omega⟩

def retOf : AF → AV
  | .ret v => v
  | _ => .none
theorem zip_lookup : ∀ {xs : List Str} {as : List AV} {vs : List Value}, VRs as vs → ∀ y v, (xs.zip as).lookup y = some v → ∃ vc, (xs.zip vs).lookup y = some vc ∧ VR v vc
  | [], _, _, _, y, v, e => by simp at e
  | x :: xs, _, _, .nil, y, v, e => by simp at e
  | x :: xs, _, _, .cons r r2, y, v, e => by
    rw [List.zip_cons_cons, lookup_put] at e
    rw [List.zip_cons_cons, List.lookup_cons]
    by_cases q : y = x
    · subst q; simp at e; subst e; exact ⟨_, by simp, r⟩
    · rw [if_neg q] at e
      have : (y == x) = false := beq_eq_false_iff_ne.mpr q
      rw [this]; exact zip_lookup r2 y v e
theorem lookup_reverse_nodup {α : Type} : ∀ {l : List (Str × α)}, (l.map (·.1)).Nodup → ∀ y, l.reverse.lookup y = l.lookup y
  | [], _, y => rfl
  | (x, v) :: r, h, y => by
    have h2 := List.nodup_cons.mp h
    rw [List.reverse_cons, List.lookup_append, lookup_reverse_nodup h2.2 y, List.lookup_cons, List.lookup_cons, List.lookup_nil]
    by_cases q : y = x
    · subst q
      have : r.lookup y = none := by
        cases e : r.lookup y with
        | none => rfl
        | some z =>
          have := PySem.mem_of_lookup e
          exact absurd (List.mem_map_of_mem (f := (·.1)) this) h2.1
      rw [this]; simp
    · have : (y == x) = false := beq_eq_false_iff_ne.mpr q
      rw [this]; cases r.lookup y <;> rfl

/-- a call of a def of the text's -/
theorem CV_fn (C : CX prog w K h₁) {f : Addr} {oc : Value} {od : Option Addr} {osl : Array (Option Value)} {name qual : Str} {params : Arguments} {body : List Stmt} {scope : Scope} {dV kV doc pm cdv ct : Value} {an : Option Addr} {xs : List Str} {as : List AV}
    (ho : K.lookup f = some ⟨oc, od, .func (fnX name qual params body scope [] dV kV doc pm an cdv ct), osl⟩) (hcd : codeIn K cdv qual = true) (hroom : A.depth < recursionLimit)
    (hlen : as.length = xs.length) (hbind : ∀ vs : List Value, vs.length = xs.length → bindArgs (fnX name qual params body scope [] dV kV doc pm an cdv ct) ⟨vs, []⟩ = pure (xs.zip vs))
    (hloc : (xs.all fun x => decide (scope.names.lookup x = some .local)) = true) (hnd : xs.Nodup)
    (hcell : ∀ x ∈ scope.names, x.2 ≠ .cell) (hco : scope.isCoroutine = false) (hgen : scope.isGenerator = false) (hk : scope.kind = .function)
    (h : ∀ L, SV prog w h₁ (A.deeper (envX qual scope L f cdv [])) L (xs.zip as) (execs body (envX qual scope L f cdv [])) hp fun fl m' hp' => Q (retOf fl) hp') :
    CL prog w h₁ A (.ref f) as hp Q := fun vf vs e0 es F s hS hT => by
  cases e0
  have X := C.X.keeps (hS.into hT)
  have lv : vs.length = xs.length := es.length.symm.trans hlen
  refine wpAny_call ?_
  refine codeAny_call_def (fd := fnX name qual params body scope [] dV kV doc pm an cdv ct) (body := body) (binds := xs.zip vs) hroom (X _ _ ho) rfl (C.nolimit.keeps (hS.into hT)) (codeRec_of X hcd) rfl (BindsTo.of_eq (hbind vs lv)) hcell
    (fun y hy => of_decide_eq_true (List.all_eq_true.mp hloc _ (List.of_mem_zip hy).1)) (fun hb hn hk => ?_) hco hgen hk
  have hT2 : ST prog w F s.heap.objs.size (xs.zip as) hp hb := by
    refine ⟨hT.keep hk, ⟨_, hn, fun y v e => ?_⟩, (hT.fresh (Nat.le_refl _)).2, (hT.fresh (Nat.le_refl _)).1⟩
    rw [lookup_reverse_nodup (by rw [List.map_fst_zip (by omega)]; exact hnd)]
    exact zip_lookup es y v e
  refine wpAny_mono (h s.heap.objs.size F { s with heap := hb, toks := s.toks + (xs.zip vs).length } hS hT2) (fun fl s' ⟨af, m', hp', h', tk', e1, T1, R1, q⟩ => ?_) fun _ _ z => z.elim
  subst e1
  cases af with
  | next => cases R1; exact ⟨.none, hp', h', tk', rfl, T1.hr, rfl, q⟩
  | brk => cases R1; exact ⟨.none, hp', h', tk', rfl, T1.hr, rfl, q⟩
  | cont => cases R1; exact ⟨.none, hp', h', tk', rfl, T1.hr, rfl, q⟩
  | ret v => obtain ⟨vc, rfl, r⟩ := R1; exact ⟨v, hp', h', tk', rfl, T1.hr, r, q⟩
end

section
variable {prog : Program} {w : World} {h₁ : Heap} {K : Frag} {A : Around} {L a : Addr} {m : Lm} {hp : Hp} {cn : Str} {cs : Scope} {ccd : Value} {cl : List (Str × Addr)} {x : Str} {v : AV} {Q : AV → Hp → Prop}
theorem LN_L (hv : m.lookup x = some v) (h : Q v hp) (hk : cs.kind = .function := by rfl) (hx : (envX cn cs L a ccd cl).kindOf x = some .local := by rfl) :
    EV prog w h₁ A L m (loadName (envX cn cs L a ccd cl) x) hp Q := fun F s hS hT => by
  obtain ⟨mc, hn, hm⟩ := hT.frm
  obtain ⟨vc, e1, e2⟩ := hm x v hv
  exact wpAny_loadName_local hk hx hn e1 ⟨v, hp, s.heap, s.toks, rfl, hT, e2, h⟩
end
section
variable {prog : Program} {w : World} {h₁ : Heap} {K : Frag} {A : Around} {L a : Addr} {m : Lm} {hp : Hp} {cn : Str} {cs : Scope} {ccd : Value} {cl : List (Str × Addr)}
  {x : Str} {pos : Pos} {Q : AV → Hp → Prop}
theorem EV_bi (C : CX prog w K h₁) {id : String} (e : nsIn K mainGlobals x = some none) (hb : bootBuiltins x = some (.builtin id)) (hn : x ≠ "__name__") (h : Q (.bi id) hp)
    (hk : cs.kind = .function := by rfl) (hx : (envX cn cs L a ccd cl).kindOf x = some .globalImplicit := by rfl) (hd : (x == ("__debug__" : Str)) = false := by decide) :
    EV prog w h₁ A L m (eval (.Name x pos) (envX cn cs L a ccd cl)) hp Q := EV_B (v := .bi id) C e hb hn rfl h hk hx hd
theorem EV_ty (C : CX prog w K h₁) {id : String} (e : nsIn K mainGlobals x = some none) (hb : bootBuiltins x = some (.type id)) (hn : x ≠ "__name__") (h : Q (.ty id) hp)
    (hk : cs.kind = .function := by rfl) (hx : (envX cn cs L a ccd cl).kindOf x = some .globalImplicit := by rfl) (hd : (x == ("__debug__" : Str)) = false := by decide) :
    EV prog w h₁ A L m (eval (.Name x pos) (envX cn cs L a ccd cl)) hp Q := EV_B (v := .ty id) C e hb hn rfl h hk hx hd
theorem EV_fn (C : CX prog w K h₁) {f : Addr} (e : nsIn K mainGlobals x = some (some (.ref f))) (h : Q (.ref f) hp)
    (hk : cs.kind = .function := by rfl) (hx : (envX cn cs L a ccd cl).kindOf x = some .globalImplicit := by rfl) (hd : (x == ("__debug__" : Str)) = false := by decide) :
    EV prog w h₁ A L m (eval (.Name x pos) (envX cn cs L a ccd cl)) hp Q := EV_G (v := .ref f) C e rfl h hk hx hd
end

theorem Les.get {hp hp' : Hp} {a : Addr} {o : AO} (k : Les hp hp') (h : hp a = some o) : hp' a = some o := k _ _ h
theorem Les.none {hp hp' : Hp} {a : Addr} (k : Les hp hp') (h : hp' a = none) : hp a = none := by
  cases q : hp a with
  | none => rfl
  | some o => rw [k _ _ q] at h; cases h
theorem SV_at {prog : Program} {w : World} {h₁ : Heap} {A : Around} {L : Addr} {m m₀ : Lm} {hp hp₀ : Hp} {t : Sem Flow} {Q : AF → Lm → Hp → Prop} (km : Sub m m₀) (kh : Les hp hp₀) (x : SV prog w h₁ A L m t hp Q) : SV prog w h₁ A L m₀ t hp₀ Q := x.pre km kh
theorem sl_upto {xs : List AV} {b : Nat} (hb : b ≤ xs.length) : ∀ vs : List Value, VRs xs vs → VRs (xs.take b) (slicePick vs.toArray none (some (b : Int)) none).toList := fun vs r => by
  rw [slicePick_upto _ _ (by rw [List.size_toArray, ← r.length]; exact hb)]
  simpa using r.take b
theorem sl_all {xs : List AV} : ∀ vs : List Value, VRs xs vs → VRs xs (slicePick vs.toArray none none none).toList := fun vs r => by
  rw [slicePick_all]; simpa using r
theorem sl_run {xs : List AV} {a b : Nat} (hab : a ≤ b) (hb : b ≤ xs.length) : ∀ vs : List Value, VRs xs vs → VRs ((xs.drop a).take (b - a)) (slicePick vs.toArray (some (a : Int)) (some (b : Int)) none).toList := fun vs r => by
  rw [slicePick_run _ _ _ (by rw [List.size_toArray, ← r.length]; exact hb) hab]
  simpa using (r.drop a).take (b - a)
theorem iL_get {ns : List Int} {i : Nat} {x : Int} (h : ns[i]? = some x) : (iL ns)[i]? = some (.int x) := by simp [h]
theorem iL_take {ns : List Int} {i : Nat} : (iL ns).take i = iL (ns.take i) := by simp [iL, List.map_take]
theorem iL_drop {ns : List Int} {i : Nat} : (iL ns).drop i = iL (ns.drop i) := by simp [iL, List.map_drop]
theorem iL_set {ns : List Int} {i : Nat} {x : Int} : (iL ns).set i (.int x) = iL (ns.set i x) := by simp [iL, List.map_set]
theorem iL_snoc {ns : List Int} {x : Int} : iL ns ++ [.int x] = iL (ns ++ [x]) := by simp [iL]
theorem iL_rep {n : Nat} {x : Int} : List.replicate n (AV.int x) = iL (List.replicate n x) := by simp [iL, List.map_replicate]
theorem iL_app {a b : List Int} : iL a ++ iL b = iL (a ++ b) := by simp [iL]
theorem iL_len {ns : List Int} : (iL ns).length = ns.length := by simp [iL]
theorem sub_il {prog : Program} {w : World} {h₁ : Heap} {A : Around} {hp : Hp} {Q : AV → Hp → Prop} {value slice : Expr} {a : Addr} {ns : List Int} {i x : Int} (hl : hp a = some (.list (iL ns))) (k : Nat) (hi : i = k) (hk : k ≤ 1000000) (hx : ns[k]? = some x) (h : Q (.int x) hp)
    (hs : ∀ u, subscripted slice false (.ref a) (.int i u) = operate [.ref a, .int i u] (getItem (.ref a) (.int i u)) := by intro _; with_unfolding_all rfl) : SUB prog w h₁ A value slice (.ref a) (.int i) hp Q :=
  sub_list hl (by omega) (by omega) (by rw [hi, Int.toNat_natCast]; exact iL_get hx) h hs
theorem EV_IfJ {prog : Program} {w : World} {h₁ : Heap} {A : Around} {L : Addr} {m : Lm} {hp : Hp} {env : Env} {pos : Pos} {Q : AV → Hp → Prop} {test body orelse : Expr} (c : Prop) [Decidable c] (x y : Int)
    (h : TV prog w h₁ A L m (isTrue test env (eval test env)) hp fun b hp₁ => b = decide c ∧ hp₁ = hp)
    (h1 : c → EV prog w h₁ A L m (eval body env) hp fun v hp' => v = .int x ∧ hp' = hp) (h2 : ¬ c → EV prog w h₁ A L m (eval orelse env) hp fun v hp' => v = .int y ∧ hp' = hp) (k : Q (.int (if c then x else y)) hp) :
    EV prog w h₁ A L m (eval (.IfExp test body orelse pos) env) hp Q := by
  refine EV_IfExp ?_
  intro F s hS hT
  refine wpAny_mono (h F s hS hT) (fun b s₁ ⟨hp₁, h', tk, e1, T1, e2, e3⟩ => ?_) fun _ _ z => z
  subst e1 e2 e3
  refine ⟨hp₁, h', tk, rfl, T1, fun q => ?_, fun q => ?_⟩
  · have q := of_decide_eq_true q
    rw [if_pos q] at k
    exact EV.mono (h1 q) fun a hp' ⟨e1, e2⟩ => by subst e1 e2; exact k
  · have q := of_decide_eq_false q
    rw [if_neg q] at k
    exact EV.mono (h2 q) fun a hp' ⟨e1, e2⟩ => by subst e1 e2; exact k
end Mine
end
section
open PySem PySem.W PyProof.Rows PySem.Calls
namespace Mine
section
variable {prog : Program} {w : World} {h₁ : Heap} {A : Around}
/-- what a call does not know of stays -/
theorem CV.frame {t : Sem Value} {hp : Hp} {Q : AV → Hp → Prop} {f : Addr} {o : AO} (hf : hp f = none) (x : CV prog w h₁ A t hp Q) :
    CV prog w h₁ A t (up hp f o) fun v hp' => ∃ hp'', Q v hp'' ∧ hp'' f = none ∧ hp' = up hp'' f o := fun F s hS hT => by
  obtain ⟨hF, ho⟩ := hT.ob f o (up_same _ _ _)
  obtain ⟨ob, e⟩ := ho.has
  have hT2 : HR prog w (addF F f ob) hp s.heap := by
    refine ⟨fun a oa q => ?_, fun a oa q => ?_⟩
    · unfold addF at q
      split at q
      · rename_i z; cases q; rw [z]; exact e
      · exact hT.fz a oa q
    · have hne : a ≠ f := fun z => by rw [z, hf] at q; cases q
      obtain ⟨q1, q2⟩ := hT.ob a oa (by rw [up_ne hne]; exact q)
      exact ⟨by unfold addF; rw [if_neg hne]; exact q1, q2⟩
  refine wpAny_mono (x _ s (hS.add hF) hT2) (fun v s' ⟨av, hp', h', tk', e1, e2, e3, e4⟩ => ?_) fun _ _ z => z
  have eL : h'.get? f = some ob := e2.fz f ob (by simp [addF])
  have hn : hp' f = none := by
    cases q : hp' f with
    | none => rfl
    | some oo => have := (e2.ob f oo q).1; simp [addF] at this
  refine ⟨av, up hp' f o, h', tk', e1, ⟨fun a oa q => e2.fz a oa ?_, fun a oa q => ?_⟩, e3, hp', e4, hn, rfl⟩
  · unfold addF; rw [if_neg (fun z => by rw [z, hF] at q; cases q)]; exact q
  · by_cases z : a = f
    · subst z; rw [up_same] at q; cases q
      exact ⟨hF, ho.keep fun ob' q => by rw [e] at q; cases q; exact eL⟩
    · rw [up_ne z] at q
      obtain ⟨q1, q2⟩ := e2.ob a oa q
      refine ⟨?_, q2⟩
      unfold addF at q1; rw [if_neg z] at q1; exact q1
theorem CL.frame {tv : AV} {as : List AV} {hp : Hp} {Q Q' : AV → Hp → Prop} {f : Addr} {o : AO} (hf : hp f = none) (x : CL prog w h₁ A tv as hp Q') (k : ∀ v hp'', Q' v hp'' → hp'' f = none → Q v (up hp'' f o)) : CL prog w h₁ A tv as (up hp f o) Q :=
  fun vf vs e1 e2 => CV.mono (CV.frame hf (x vf vs e1 e2)) fun a hp' ⟨hp'', q1, q2, q3⟩ => by subst q3; exact k _ _ q1 q2
theorem CL.mono {tv : AV} {as : List AV} {hp : Hp} {Q Q' : AV → Hp → Prop} (x : CL prog w h₁ A tv as hp Q') (k : ∀ v hp'', Q' v hp'' → Q v hp'') : CL prog w h₁ A tv as hp Q :=
  fun vf vs e1 e2 => CV.mono (x vf vs e1 e2) k
end
theorem les_split {hpx hp' : Hp} {f : Addr} {o : AO} (hf : hpx f = none) (k : Les (up hpx f o) hp') : ∃ hpy, hp' = up hpy f o ∧ hpy f = none ∧ Les hpx hpy := by
  refine ⟨fun c => if c = f then none else hp' c, ?_, by simp, fun c oc e => ?_⟩
  · funext c
    by_cases q : c = f
    · subst q; rw [up_same]; exact k _ _ (up_same _ _ _)
    · rw [up_ne q]; simp [q]
  · have hne : c ≠ f := fun q => by rw [q, hf] at e; cases e
    simp only [if_neg hne]
    exact k c oc (by rw [up_ne hne]; exact e)
def LesM (M : Addr → Prop) (hp hp' : Hp) : Prop := ∀ a o, ¬ M a → hp a = some o → hp' a = some o
theorem LesM.refl {M : Addr → Prop} {hp : Hp} : LesM M hp hp := fun _ _ _ e => e
theorem LesM.trans {M : Addr → Prop} {a b c : Hp} (x : LesM M a b) (y : LesM M b c) : LesM M a c := fun z v n e => y z v n (x z v n e)
theorem les_m {M : Addr → Prop} {hp hp' : Hp} (k : Les hp hp') : LesM M hp hp' := fun a o _ e => k a o e

/-- what by_windows asks of its times -/
structure Tm (prog : Program) (w : World) (h₁ : Heap) (n : Nat) (tf : Addr) (M : Addr → Prop) (Rep : Hp → AV → Nat → Prop) (Inv : Hp → List (Nat × Nat) → Prop) : Prop where
  fn : ∀ hp lg, Inv hp lg → ∃ oc od fd sl, hp tf = some (.obj ⟨oc, od, .func fd, sl⟩)
  inv : ∀ hp hp' lg, Les hp hp' → Inv hp lg → Inv hp' lg
  rep : ∀ hp hp' x i, LesM M hp hp' → Rep hp x i → Rep hp' x i
  call : ∀ (A : Around) hp x y i j lg (Q : AV → Hp → Prop), Room A n → Inv hp lg → Rep hp x i → Rep hp y j → 0 < i → 0 < j → lg.length ≤ 50000 → (∀ r hp', LesM M hp hp' → Rep hp' r (i + j) → Inv hp' (lg ++ [(i, j)]) → Q r hp') → CL prog w h₁ A (.ref tf) [x, y] hp Q
  notn : ∀ hp x i, Rep hp x i → x ≠ .none

def avail (lg : List (Nat × Nat)) : List Nat := 1 :: lg.map fun p => p.1 + p.2
inductive ValidLog : List (Nat × Nat) → Prop
  | nil : ValidLog []
  | snoc {lg : List (Nat × Nat)} {i j : Nat} : ValidLog lg → i ∈ avail lg → j ∈ avail lg → ValidLog (lg ++ [(i, j)])
theorem avail_snoc {lg : List (Nat × Nat)} {i j : Nat} : avail (lg ++ [(i, j)]) = avail lg ++ [i + j] := by simp [avail]
theorem avail_mono {lg : List (Nat × Nat)} {i j k : Nat} (h : k ∈ avail lg) : k ∈ avail (lg ++ [(i, j)]) := by rw [avail_snoc]; exact List.mem_append_left _ h
theorem avail_new {lg : List (Nat × Nat)} {i j : Nat} : i + j ∈ avail (lg ++ [(i, j)]) := by rw [avail_snoc]; exact List.mem_append_right _ (List.mem_singleton.mpr rfl)

theorem CW_T {prog : Program} {w : World} {h₁ : Heap} {A : Around} {L : Addr} {m : Lm} {env : Env} {pos : Pos} {Q : AV → Hp → Prop} {n : Nat} {tf : Addr} {M : Addr → Prop} {Rep : Hp → AV → Nat → Prop} {Inv : Hp → List (Nat × Nat) → Prop} (T : Tm prog w h₁ n tf M Rep Inv) (rm : Room A n)
    {hpx : Hp} {tb : Addr} {o : AO} {lg : List (Nat × Nat)} {x y : AV} {i j : Nat} {e : Expr} {rest : List Expr} (htb : hpx tb = none) (hi : Inv hpx lg) (hx : Rep hpx x i) (hy : Rep hpx y j) (i0 : 0 < i) (j0 : 0 < j) (hl : lg.length ≤ 50000)
    (hargs : ∀ R : List AV → Hp → Prop, R [x, y] (up hpx tb o) → EVs prog w h₁ A L m (spliced (backTo pos (starEach (e :: rest) env))) (up hpx tb o) R)
    (k : ∀ r hpy, LesM M hpx hpy → hpy tb = none → Rep hpy r (i + j) → Inv hpy (lg ++ [(i, j)]) → Q r (up hpy tb o))
    (he : starEach (e :: rest) env = (false, eval e env) :: starEach rest env := by rfl) (hplain : (backTo pos (starEach rest env)).any (·.1) = false := by rfl) :
    CW prog w h₁ A L m env pos (.ref tf) (e :: rest) (up hpx tb o) Q := by
  obtain ⟨oc, od, fd, sl, hf⟩ := T.fn _ _ hi
  have hne : tf ≠ tb := ne_of_none hf htb
  refine CW_F (oc := oc) (od := od) (fd := fd) (sl := sl) (by rw [up_ne hne]; exact hf) (hargs _ ⟨by rw [up_ne hne]; exact hf, ?_⟩) he hplain
  exact CL.frame htb (T.call A hpx x y i j lg (fun r hpy => LesM M hpx hpy ∧ Rep hpy r (i + j) ∧ Inv hpy (lg ++ [(i, j)])) rm hi hx hy i0 j0 hl fun r hp' a b c => ⟨a, b, c⟩) fun r hpy ⟨a, b, c⟩ d => k r hpy a d b c
end Mine
end
section
open PySem PySem.W PyProof.Rows PySem.Calls
namespace Mine

/-! dicts -/
theorem valueAt_cons (p : Int × Value) (r : List (Int × Value)) (j : Int) : valueAt (p :: r) j = if p.1 = j then some p.2 else valueAt r j := by
  unfold valueAt
  rw [List.find?_cons]
  by_cases q : p.1 = j <;> simp [q]
theorem valueAt_put (k : Int) (v : Value) (j : Int) : ∀ cv : List (Int × Value), valueAt (cv.map fun kv => if kv.1 = k then (kv.1, v) else kv) j = if j = k then (valueAt cv j).map (fun _ => v) else valueAt cv j
  | [] => by simp [valueAt]
  | p :: r => by
    rw [List.map_cons, valueAt_cons, valueAt_cons, valueAt_put k v j r]
    by_cases q : p.1 = k
    · subst q
      rw [if_pos rfl]
      by_cases q2 : p.1 = j
      · subst q2; simp
      · have : ¬ j = p.1 := fun z => q2 z.symm
        simp [q2, this]
    · rw [if_neg q]
      by_cases q2 : p.1 = j
      · subst q2; simp [q]
      · simp [q2]
theorem valueAt_app (cv : List (Int × Value)) (k : Int) (v : Value) (j : Int) : valueAt (cv ++ [(k, v)]) j = (valueAt cv j).or (if k = j then some v else none) := by
  induction cv with
  | nil => rw [List.nil_append, valueAt_cons]; simp [valueAt]
  | cons p r ih =>
    rw [List.cons_append, valueAt_cons, valueAt_cons, ih]
    split <;> simp
theorem valueAt_set (cv : List (Int × Value)) (k : Int) (v : Value) (j : Int) : valueAt (stored cv k v) j = if j = k then some v else valueAt cv j := by
  have hs := valueAt_isSome_eq_any cv k
  unfold stored
  split
  · rename_i q
    rw [valueAt_put]
    by_cases z : j = k
    · subst z
      rw [if_pos rfl, if_pos rfl]
      rw [q] at hs
      obtain ⟨y, e⟩ := Option.isSome_iff_exists.mp hs
      rw [e]; rfl
    · rw [if_neg z, if_neg z]
  · rename_i q
    rw [valueAt_app]
    have hn : valueAt cv k = none := by
      rw [Bool.not_eq_true] at q
      rw [q] at hs
      exact Option.not_isSome_iff_eq_none.mp (by rw [hs]; decide)
    by_cases z : j = k
    · subst z; rw [hn]; simp
    · have : ¬ k = j := fun x => z x.symm
      simp [z, this]

section
variable {prog : Program} {w : World} {h₁ : Heap} {K : Frag} {A : Around} {L : Addr} {m : Lm} {hp : Hp} {env : Env} {pos : Pos} {Q : AV → Hp → Prop}
theorem set_dict {a : Addr} {f : Int → Option AV} {n : Nat} {i : Int} {v : AV} {vi vv : Value} {R : Hp → Prop} (hl : hp a = some (.dict f n)) (hn : n ≤ 100000) (e1 : VR (.int i) vi) (e2 : VR v vv) (h : R (up hp a (.dict (fun j => if j = i then some v else f j) (n + 1)))) :
    CU prog w h₁ A (setItem (.ref a) vi vv) hp R := fun F s hS hT => by
  obtain ⟨u, rfl⟩ := e1
  obtain ⟨_, cv, pl, hsm, hn2, r1, r2⟩ := hT.ob _ _ hl
  refine wpAny_setItem_pairs (k := i) (by simp [intKind, Value.isInt]) pl (fun h' hm hs => ⟨up hp a (.dict (fun j => if j = i then some v else f j) (n + 1)), h', s.toks + 1, rfl, hT.chg hl hs.extBut ⟨stored cv i vv, hm, hsm, ?_, fun k hk => ?_, fun k x hk => ?_⟩, h⟩) (Nat.le_trans (Nat.le_trans hn2 hn) (by decide))
  · have := stored_length_le cv i vv; omega
  · rw [valueAt_set]
    by_cases q : k = i
    · simp [q] at hk
    · simp only [if_neg q] at hk ⊢; exact r1 k hk
  · rw [valueAt_set]
    by_cases q : k = i
    · simp only [if_pos q] at hk ⊢; cases hk; exact ⟨vv, rfl, e2⟩
    · simp only [if_neg q] at hk ⊢; exact r2 k x hk
theorem EV_Dict2 (C : CX prog w K h₁) {k1 k2 v1 v2 : Expr} (h : ∀ b, hp b = none → EV prog w h₁ A L m (eval k1 env) (up hp b (.dict (fun _ => none) 0)) fun a1 hp1 => EV prog w h₁ A L m (eval v1 env) hp1 fun x1 hp2 => EV prog w h₁ A L m (eval k2 env) hp2 fun a2 hp3 => EV prog w h₁ A L m (eval v2 env) hp3 fun x2 hp4 =>
      ∃ i1 i2, a1 = .int i1 ∧ a2 = .int i2 ∧ i1 ≠ i2 ∧ hp4 b = some (.dict (fun _ => none) 0) ∧ Q (.ref b) (up hp4 b (.dict (fun j => if j = i1 then some x1 else if j = i2 then some x2 else none) 2))) :
    EV prog w h₁ A L m (eval (.Dict [some k1, some k2] [v1, v2] pos) env) hp Q := fun F s hS hT => by
  have hlt := modules_low (C.nolimit.keeps (hS.into hT.hr))
  have hsm : (s.heap.objs.size == sysModules) = false := beq_eq_false_iff_ne.mpr (Nat.ne_of_gt hlt)
  have hnew : ST prog w F L m (up hp s.heap.objs.size (.dict (fun _ => none) 0)) (s.heap.push { cls := .type "dict", data := .dict #[] }) := by
    have hL : L < s.heap.objs.size := by obtain ⟨_, ⟨o, es, ep, e, _⟩, _⟩ := hT.frm; exact Heap.lt_size e
    refine ⟨hT.hr.new (Nat.le_refl _) push_get ⟨[], Heap.DictOf.new s.heap, hsm, Nat.le_refl _, fun _ _ => rfl, fun _ _ q => by cases q⟩, hT.frm.keep fun ob e => push_get _ _ e, hT.fl, ?_⟩
    rw [up_ne (Nat.ne_of_lt hL)]; exact hT.hl
  refine wpAny_Dict_walk (knd := intKind prog w) rfl rfl (by simp) (by simp) ?_
  refine pairTrees_cons_walk ?_
  refine wpAny_mono (h _ (hT.hr.fresh (Nat.le_refl _)).1 F { s with heap := s.heap.push { cls := .type "dict", data := .dict #[] } } hS hnew) (fun w1 s₁ ⟨a1, hp1, h1, tk1, e1, T1, R1, q1⟩ => ?_) fun _ _ z => z
  subst e1
  refine wpAny_mono (q1 F { s with heap := h1, toks := tk1 } hS T1) (fun w2 s₂ ⟨x1, hp2, h2, tk2, e2, T2, R2, q2⟩ => ?_) fun _ _ z => z
  subst e2
  refine pairTrees_cons_walk ?_
  refine wpAny_mono (q2 F { s with heap := h2, toks := tk2 } hS T2) (fun w3 s₃ ⟨a2, hp3, h3, tk3, e3, T3, R3, q3⟩ => ?_) fun _ _ z => z
  subst e3
  refine wpAny_mono (q3 F { s with heap := h3, toks := tk3 } hS T3) (fun w4 s₄ ⟨x2, hp4, h4, tk4, e4, T4, R4, i1, i2, ea1, ea2, hne, hb, q4⟩ => ?_) fun _ _ z => z
  subst e4 ea1 ea2
  obtain ⟨u1, rfl⟩ := R1
  obtain ⟨u2, rfl⟩ := R3
  refine pairTrees_nil_walk ?_
  obtain ⟨_, cv, pl, _, hcv, _, _⟩ := T4.hr.ob _ _ hb
  have hcv0 : cv = [] := List.length_eq_zero_iff.mp (by omega)
  subst hcv0
  refine display_done_int (w := w) (prog := prog) (vs := [(.int i1 u1, w2), (.int i2 u2, w4)]) (P := fun h' => ∃ av hp' h'' tk', _ ∧ _) rfl (by simp [intKeyPairs, hne]) pl fun h' hm hs => ?_
  have hne2 : L ≠ s.heap.objs.size := fun q => by rw [← q, T4.hl] at hb; cases hb
  refine ⟨.ref s.heap.objs.size, up hp4 s.heap.objs.size (.dict (fun j => if j = i1 then some x1 else if j = i2 then some x2 else none) 2), h', _, rfl, ⟨T4.hr.chg hb hs.extBut ⟨_, hm, hsm, Nat.le_refl _, fun k hk => ?_, fun k x hk => ?_⟩, T4.frm.keep fun ob e => hs.extBut _ _ hne2 e, T4.fl, by rw [up_ne hne2]; exact T4.hl⟩, rfl, q4⟩
  · simp only [] at hk
    rw [show intKeyPairs [(Value.int i1 u1, w2), (.int i2 u2, w4)] = [(i1, w2), (i2, w4)] from rfl, valueAt_cons, valueAt_cons]
    by_cases z1 : k = i1
    · simp [z1] at hk
    · rw [if_neg z1] at hk
      by_cases z2 : k = i2
      · simp [z2] at hk
      · rw [if_neg (fun q => z1 q.symm), if_neg (fun q => z2 q.symm)]; rfl
  · simp only [] at hk
    rw [show intKeyPairs [(Value.int i1 u1, w2), (.int i2 u2, w4)] = [(i1, w2), (i2, w4)] from rfl, valueAt_cons, valueAt_cons]
    by_cases z1 : k = i1
    · rw [if_pos z1] at hk; cases hk; rw [if_pos z1.symm]; exact ⟨_, rfl, R2⟩
    · rw [if_neg z1] at hk
      rw [if_neg (fun q => z1 q.symm)]
      by_cases z2 : k = i2
      · rw [if_pos z2] at hk; cases hk; rw [if_pos z2.symm]; exact ⟨_, rfl, R4⟩
      · rw [if_neg z2] at hk; cases hk
end
end Mine
end
section
open PySem PySem.W PyProof.Rows PySem.Calls
namespace Mine

/-! calls of defs that hold cells -/
theorem bindL_not {kd : Str → Option NameKind} : ∀ (bs : List (Str × Value)) (m : Str → Option Value) (y : Str), y ∉ bs.map (·.1) → bindL kd bs m y = m y
  | [], _, _, _ => rfl
  | (n, v) :: r, m, y, h => by
    rw [List.map_cons, List.mem_cons] at h
    rw [bindL, bindL_not r _ y fun q => h (.inr q)]
    have : y ≠ n := fun q => h (.inl q)
    split
    · simp [this]
    · rfl
theorem bindC_not {kd : Str → Option NameKind} : ∀ (bs : List (Str × Value)) (m : Str → Option Value) (y : Str), y ∉ bs.map (·.1) → bindC kd bs m y = m y
  | [], _, _, _ => rfl
  | (n, v) :: r, m, y, h => by
    rw [List.map_cons, List.mem_cons] at h
    rw [bindC, bindC_not r _ y fun q => h (.inr q)]
    have : y ≠ n := fun q => h (.inl q)
    split
    · rfl
    · simp [this]
theorem bindL_get {kd : Str → Option NameKind} : ∀ (bs : List (Str × Value)) (m : Str → Option Value) (y : Str) (v : Value), (bs.map (·.1)).Nodup → bs.lookup y = some v → kd y = some .local → bindL kd bs m y = some v
  | [], _, _, _, _, e, _ => by simp at e
  | (n, u) :: r, m, y, v, hn, e, hk => by
    have hn2 := List.nodup_cons.mp hn
    rw [List.lookup_cons] at e
    by_cases q : y = n
    · subst q
      simp at e; subst e
      rw [bindL, bindL_not r _ y hn2.1, if_pos hk]; simp
    · have : (y == n) = false := beq_eq_false_iff_ne.mpr q
      rw [this] at e
      rw [bindL]; exact bindL_get r _ y v hn2.2 e hk
theorem bindC_get {kd : Str → Option NameKind} : ∀ (bs : List (Str × Value)) (m : Str → Option Value) (y : Str) (v : Value), (bs.map (·.1)).Nodup → bs.lookup y = some v → kd y ≠ some .local → bindC kd bs m y = some v
  | [], _, _, _, _, e, _ => by simp at e
  | (n, u) :: r, m, y, v, hn, e, hk => by
    have hn2 := List.nodup_cons.mp hn
    rw [List.lookup_cons] at e
    by_cases q : y = n
    · subst q
      simp at e; subst e
      rw [bindC, bindC_not r _ y hn2.1, if_neg hk]; simp
    · have : (y == n) = false := beq_eq_false_iff_ne.mpr q
      rw [this] at e
      rw [bindC]; exact bindC_get r _ y v hn2.2 e hk
theorem HR.add {prog : Program} {w : World} {F : Fz} {hp : Hp} {h : Heap} (x : HR prog w F hp h) {a : Addr} {o : AO} (hf : F a = none) (y : OR prog w h a o) : HR prog w F (up hp a o) h := by
  refine ⟨x.fz, fun b ob e => ?_⟩
  by_cases hb : b = a
  · subst hb; simp at e; subst e; exact ⟨hf, y⟩
  · rw [up_ne hb] at e; exact x.ob _ _ e
def cellHp (cs : List (Str × Addr)) (g : Str → AO) (hp : Hp) : Hp := fun a => match cs.find? (fun p => p.2 == a) with
  | some p => some (g p.1)
  | none => hp a
theorem mem_fst_of_lookup {α : Type} : ∀ {l : List (Str × α)} {y : Str}, l.lookup y = none → y ∉ l.map (·.1)
  | [], _, _ => by simp
  | (n, v) :: r, y, h => by
    rw [List.lookup_cons] at h
    by_cases q : y = n
    · subst q; simp at h
    · have : (y == n) = false := beq_eq_false_iff_ne.mpr q
      rw [this] at h
      rw [List.map_cons, List.mem_cons]
      exact fun z => z.elim q (mem_fst_of_lookup h)
theorem zip_none : ∀ {xs : List Str} {as : List AV} {vs : List Value}, VRs as vs → ∀ y, (xs.zip as).lookup y = none → (xs.zip vs).lookup y = none
  | [], _, _, _, y, e => by simp
  | x :: xs, _, _, .nil, y, e => by simp
  | x :: xs, _, _, .cons r r2, y, e => by
    rw [List.zip_cons_cons, lookup_put] at e
    rw [List.zip_cons_cons, List.lookup_cons]
    by_cases q : y = x
    · subst q; simp at e
    · rw [if_neg q] at e
      have : (y == x) = false := beq_eq_false_iff_ne.mpr q
      rw [this]; exact zip_none r2 y e

section
variable {prog : Program} {w : World} {h₁ : Heap} {K : Frag} {A : Around} {L : Addr} {m : Lm} {hp : Hp} {Q : AV → Hp → Prop}
theorem CV_fnC (C : CX prog w K h₁) {f : Addr} {oc : Value} {od : Option Addr} {osl : Array (Option Value)} {name qual : Str} {params : Arguments} {body : List Stmt} {scope : Scope} {dV kV doc pm cdv ct : Value} {an : Option Addr} {xs : List Str} {as : List AV}
    (ho : K.lookup f = some ⟨oc, od, .func (fnX name qual params body scope [] dV kV doc pm an cdv ct), osl⟩) (hcd : codeIn K cdv qual = true) (hroom : A.depth < recursionLimit)
    (hlen : as.length = xs.length) (hbind : ∀ vs : List Value, vs.length = xs.length → bindArgs (fnX name qual params body scope [] dV kV doc pm an cdv ct) ⟨vs, []⟩ = pure (xs.zip vs))
    (hkind : ∀ n, ∀ x ∈ xs, scope.names.lookup x = some .local ∨ (scope.names.lookup x = some .cell ∧ ((cellsFrom n scope.names []).lookup x).isSome = true)) (hnd : xs.Nodup)
    (hcn : ((cellsFrom 0 scope.names []).map (·.1)).Nodup) (hck : ∀ x ∈ (cellsFrom 0 scope.names []).map (·.1), scope.names.lookup x ≠ some .local) (hco : scope.isCoroutine = false) (hgen : scope.isGenerator = false) (hk : scope.kind = .function)
    (hm : ∀ y v, m.lookup y = some v → (xs.zip as).lookup y = some v ∧ scope.names.lookup y = some .local)
    (h : ∀ L hpC, Les hp hpC → hpC L = none → (∀ n c, (cellsFrom (L + 1) scope.names []).lookup n = some c → hp c = none ∧ hpC c = some (match (xs.zip as).lookup n with | some v => .cell v | none => .cell0)) →
      SV prog w h₁ (A.deeper (envX qual scope L f cdv (cellsFrom (L + 1) scope.names []))) L m (execs body (envX qual scope L f cdv (cellsFrom (L + 1) scope.names []))) hpC fun fl m' hp' => Q (retOf fl) hp') :
    CL prog w h₁ A (.ref f) as hp Q := fun vf vs e0 es F s hS hT => by
  cases e0
  have X := C.X.keeps (hS.into hT)
  have lv : vs.length = xs.length := es.length.symm.trans hlen
  have hfst : (xs.zip vs).map (·.1) = xs := List.map_fst_zip (by omega)
  refine wpAny_call ?_
  refine codeAny_call_cells (fd := fnX name qual params body scope [] dV kV doc pm an cdv ct) (body := body) (binds := xs.zip vs) hroom (X _ _ ho) rfl (C.nolimit.keeps (hS.into hT)) (codeRec_of X hcd) rfl (hbind vs lv) rfl
    (fun y hy => hkind _ _ (List.of_mem_zip hy).1) (fun s₁ x => ?_) hco hgen hk
  obtain ⟨hb, tk, rfl, hkeep⟩ := x.done
  have nms : (cellsFrom (s.heap.objs.size + 1) scope.names []).map (·.1) = (cellsFrom 0 scope.names []).map (·.1) := cellsFrom_names _ _ _ _ _ rfl
  have hlk : ∀ n c, (n, c) ∈ cellsFrom (s.heap.objs.size + 1) scope.names [] → (cellsFrom (s.heap.objs.size + 1) scope.names []).lookup n = some c := fun n c hm => lookup_of_mem_nodup (nms ▸ hcn) hm
  have habove : ∀ n c, (n, c) ∈ cellsFrom (s.heap.objs.size + 1) scope.names [] → s.heap.objs.size < c := x.above
  let g : Str → AO := fun n => match (xs.zip as).lookup n with | some v => .cell v | none => .cell0
  have hno : ∀ a, a ≤ s.heap.objs.size → (cellsFrom (s.heap.objs.size + 1) scope.names []).find? (fun p => p.2 == a) = none := fun a ha => by
    rw [List.find?_eq_none]
    intro p hp q
    have h1 := habove p.1 p.2 hp
    have h2 : p.2 = a := by simpa using q
    rw [h2] at h1
    exact Nat.lt_irrefl _ (Nat.lt_of_lt_of_le h1 ha)
  have hHR : HR prog w F (cellHp (cellsFrom (s.heap.objs.size + 1) scope.names []) g hp) hb := by
    refine ⟨fun a o e => hkeep _ _ (hT.fz a o e), fun a o e => ?_⟩
    unfold cellHp at e
    split at e
    · rename_i p hp
      have hmem := List.mem_of_find?_eq_some hp
      have hpa : p.2 = a := by simpa using List.find?_some hp
      subst hpa
      have hp1 := habove p.1 p.2 hmem
      refine ⟨(hT.fresh (Nat.le_of_lt hp1)).2, ?_⟩
      obtain ⟨ob, e1, e2⟩ := x.cell p.1 p.2 (hlk _ _ hmem)
      have hloc : scope.names.lookup p.1 ≠ some .local := hck p.1 (nms ▸ List.mem_map_of_mem (f := (·.1)) hmem)
      cases q : (xs.zip as).lookup p.1 with
      | none =>
        have eg : g p.1 = .cell0 := by simp only [g, q]
        rw [eg] at e; cases e
        refine ⟨ob, e1, ?_⟩
        rw [e2, bindC_not _ _ _ (mem_fst_of_lookup (zip_none es _ q))]
      | some v =>
        have eg : g p.1 = .cell v := by simp only [g, q]
        rw [eg] at e; cases e
        obtain ⟨vc, z1, z2⟩ := zip_lookup es _ _ q
        exact ⟨ob, vc, e1, by rw [e2, bindC_get _ _ _ vc (hfst.symm ▸ hnd) z1 hloc], z2⟩
    · exact ⟨(hT.ob a o e).1, (hT.ob a o e).2.keep fun _ q => hkeep _ _ q⟩
  have hL : cellHp (cellsFrom (s.heap.objs.size + 1) scope.names []) g hp s.heap.objs.size = none := by
    unfold cellHp; rw [hno _ (Nat.le_refl _)]; exact (hT.fresh (Nat.le_refl _)).1
  have hT2 : ST prog w F s.heap.objs.size m (cellHp (cellsFrom (s.heap.objs.size + 1) scope.names []) g hp) hb := by
    refine ⟨hHR, ⟨_, x.toInCall.ns, fun y v e => ?_⟩, (hT.fresh (Nat.le_refl _)).2, hL⟩
    obtain ⟨e1, e2⟩ := hm y v e
    obtain ⟨vc, z1, z2⟩ := zip_lookup es _ _ e1
    exact ⟨vc, bindL_get _ _ _ vc (hfst.symm ▸ hnd) z1 e2, z2⟩
  refine wpAny_mono (h s.heap.objs.size _ (fun a o e => ?_) hL (fun n c hc => ⟨?_, ?_⟩) F { s with heap := hb, toks := tk } hS hT2) (fun fl s' ⟨af, m', hp', h', tk', e1, T1, R1, q⟩ => ?_) fun _ _ z => z.elim
  · unfold cellHp; rw [hno a (Nat.le_of_lt (hT.lt e))]; exact e
  · exact (hT.fresh (Nat.le_of_lt (habove n c (PySem.mem_of_lookup hc)))).1
  · have hmem := PySem.mem_of_lookup hc
    unfold cellHp
    cases q : (cellsFrom (s.heap.objs.size + 1) scope.names []).find? (fun p => p.2 == c) with
    | none =>
      rw [List.find?_eq_none] at q
      have := q _ hmem
      simp at this
    | some p =>
      have hm2 := List.mem_of_find?_eq_some q
      have hpa : p.2 = c := by simpa using List.find?_some q
      have : p.1 = n := name_of_addr x.apart (c := c) (by rw [← hpa]; exact hm2) hmem
      show some (g p.1) = _
      rw [this]
  · subst e1
    cases af with
    | next => cases R1; exact ⟨.none, hp', h', tk', rfl, T1.hr, rfl, q⟩
    | brk => cases R1; exact ⟨.none, hp', h', tk', rfl, T1.hr, rfl, q⟩
    | cont => cases R1; exact ⟨.none, hp', h', tk', rfl, T1.hr, rfl, q⟩
    | ret v => obtain ⟨vc, rfl, r⟩ := R1; exact ⟨v, hp', h', tk', rfl, T1.hr, r, q⟩

/-- a call of a def that was made on the way -/
theorem CV_fnO (nl : h₁.NoLimit) {f c' : Addr} {oc : Value} {od : Option Addr} {osl : Array (Option Value)} {name qual : Str} {params : Arguments} {body : List Stmt} {scope : Scope} {cl : List (Str × Addr)} {dV kV doc pm ct : Value} {an : Option Addr} {xs : List Str} {as : List AV} {occ : Obj} {fs : Array Value} {t : Tok}
    (ho : hp f = some (.obj ⟨oc, od, .func (fnX name qual params body scope cl dV kV doc pm an (.ref c') ct), osl⟩)) (hc1 : hp c' = some (.obj occ)) (hc2 : occ.data = .fields fs) (hc3 : fs[1]? = some (.str qual t)) (hroom : A.depth < recursionLimit)
    (hlen : as.length = xs.length) (hbind : ∀ vs : List Value, vs.length = xs.length → bindArgs (fnX name qual params body scope cl dV kV doc pm an (.ref c') ct) ⟨vs, []⟩ = pure (xs.zip vs))
    (hloc : (xs.all fun x => decide (scope.names.lookup x = some .local)) = true) (hnd : xs.Nodup)
    (hcell : ∀ x ∈ scope.names, x.2 ≠ .cell) (hco : scope.isCoroutine = false) (hgen : scope.isGenerator = false) (hk : scope.kind = .function)
    (h : ∀ L, SV prog w h₁ (A.deeper (envX qual scope L f (.ref c') cl)) L (xs.zip as) (execs body (envX qual scope L f (.ref c') cl)) hp fun fl m' hp' => Q (retOf fl) hp') :
    CL prog w h₁ A (.ref f) as hp Q := fun vf vs e0 es F s hS hT => by
  cases e0
  have lv : vs.length = xs.length := es.length.symm.trans hlen
  refine wpAny_call ?_
  refine codeAny_call_def (fd := fnX name qual params body scope cl dV kV doc pm an (.ref c') ct) (body := body) (binds := xs.zip vs) hroom (hT.ob _ _ ho).2 rfl (nl.keeps (hS.into hT)) ⟨c', occ, fs, t, rfl, (hT.ob _ _ hc1).2, hc2, hc3⟩ rfl (BindsTo.of_eq (hbind vs lv)) hcell
    (fun y hy => of_decide_eq_true (List.all_eq_true.mp hloc _ (List.of_mem_zip hy).1)) (fun hb hn hk => ?_) hco hgen hk
  have hT2 : ST prog w F s.heap.objs.size (xs.zip as) hp hb := by
    refine ⟨hT.keep hk, ⟨_, hn, fun y v e => ?_⟩, (hT.fresh (Nat.le_refl _)).2, (hT.fresh (Nat.le_refl _)).1⟩
    rw [lookup_reverse_nodup (by rw [List.map_fst_zip (by omega)]; exact hnd)]
    exact zip_lookup es y v e
  refine wpAny_mono (h s.heap.objs.size F { s with heap := hb, toks := s.toks + (xs.zip vs).length } hS hT2) (fun fl s' ⟨af, m', hp', h', tk', e1, T1, R1, q⟩ => ?_) fun _ _ z => z.elim
  subst e1
  cases af with
  | next => cases R1; exact ⟨.none, hp', h', tk', rfl, T1.hr, rfl, q⟩
  | brk => cases R1; exact ⟨.none, hp', h', tk', rfl, T1.hr, rfl, q⟩
  | cont => cases R1; exact ⟨.none, hp', h', tk', rfl, T1.hr, rfl, q⟩
  | ret v => obtain ⟨vc, rfl, r⟩ := R1; exact ⟨v, hp', h', tk', rfl, T1.hr, r, q⟩
end

/-! a def within a def -/
structure CN (h₁ : Heap) (c P : Addr) : Prop where
  hd : CodeHd h₁ c P
  bm : ∃ mg bm ob, h₁.Ns mainGlobals mg ∧ mg "__builtins__" = some (.ref bm) ∧ bm ≠ builtinsNs ∧ h₁.get? bm = some ob ∧ ob.cls = .type "module" ∧ ob.dict = some builtinsNs ∧ ob.data = .plain
def TabOk (P : Addr) (qual : Str) (ln co : Int) (hp : Hp) : Prop := hp P = some (.obj (tabObj #[])) ∨
  ∃ c' oc fs t, hp P = some (.obj (tabObj #[rawInt ln, rawInt co, .ref c'])) ∧ hp c' = some (.obj oc) ∧ oc.data = .fields fs ∧ fs[1]? = some (.str qual t) ∧ c' ≠ P
theorem TabOk.les {P : Addr} {qual : Str} {ln co : Int} {hp hp' : Hp} (x : TabOk P qual ln co hp) (k : Les hp hp') : TabOk P qual ln co hp' := by
  rcases x with e | ⟨c', oc, fs, t, a, b, r⟩
  · exact .inl (k _ _ e)
  · exact .inr ⟨c', oc, fs, t, k _ _ a, k _ _ b, r⟩
theorem codeAmong_one (pos : Pos) (c : Value) : codeAmong pos [rawInt pos.line, rawInt pos.col, c] = some c := by simp [codeAmong, rawInt]

section
variable {prog : Program} {w : World} {h₁ : Heap} {A : Around} {L a c P : Addr} {m : Lm} {hp : Hp} {cn : Str} {cs : Scope} {ccd : Value} {cl : List (Str × Addr)} {Q : AF → Lm → Hp → Prop}
  {name : Str} {params : Arguments} {body : List Stmt} {scope : Scope} {pos : Pos} {clos : List (Str × Addr)}
theorem SV_Def (N : CN h₁ c P) (hcd : ccd = .ref c) (hT₀ : TabOk P (qualnameIn (envX cn cs L a ccd cl) name name) pos.line pos.col hp)
    (hcl : closureFor scope (envX cn cs L a ccd cl) = pure clos) (hd0 : params.defaults = []) (hk0 : params.kw_defaults = []) (ha : annTrees params none (envX cn cs L a ccd cl) = [])
    (h : ∀ f c' oc fs t ctv doc pm hp', LesM (· = P) hp hp' → TabOk P (qualnameIn (envX cn cs L a ccd cl) name name) pos.line pos.col hp' → hp f = none →
      hp' f = some (.obj (fnMade name (qualnameIn (envX cn cs L a ccd cl) name name) params body scope clos doc pm c' ctv)) → hp' c' = some (.obj oc) → oc.data = .fields fs → fs[1]? = some (.str (qualnameIn (envX cn cs L a ccd cl) name name) t) →
      ∀ vc, VR (.ref f) vc → UV prog w h₁ A L m (storeName (envX cn cs L a ccd cl) name vc) hp' fun m' hp'' => Q .next m' hp'') :
    SV prog w h₁ A L m (exec (.FunctionDef name params body [] none [] scope none name pos) (envX cn cs L a ccd cl)) hp Q := fun F s hS hT => by
  refine nestDef_K hd0 hk0 ha ?_
  obtain ⟨mg, bm, ob, G, b1, b2, b3, b4, b5, b6⟩ := N.bm
  have hin := hS.into hT.hr
  have G' := G.keeps hin
  have hPn : h₁.get? P = none := by
    cases q : h₁.get? P with
    | none => rfl
    | some o =>
      have hF := hS _ _ q
      rcases hT₀ with e | ⟨c', oc, fs, t, e, _⟩
      · rw [(hT.hr.ob _ _ e).1] at hF; cases hF
      · rw [(hT.hr.ob _ _ e).1] at hF; cases hF
  have hbP : bm ≠ P := fun q => by rw [q, hPn] at b3; cases b3
  have hgP : mainGlobals ≠ P := fun q => by
    obtain ⟨o, es, ep, e, _⟩ := G
    rw [q, hPn] at e; cases e
  have hbG : bm ≠ mainGlobals := fun q => by
    obtain ⟨o, es, ep, e, hd, _⟩ := G
    rw [q, e] at b3; cases b3; rw [hd] at b6; cases b6
  have hBA : s.heap.BuiltinsAt mg P := ⟨bm, ob, b1, b2, hbG, hbP, hin _ _ b3, b4, b5, b6⟩
  have fin : ∀ f c' oc fs t ctv doc pm hp' h' tk, LesM (· = P) hp hp' → TabOk P (qualnameIn (envX cn cs L a ccd cl) name name) pos.line pos.col hp' → hp f = none →
      hp' f = some (.obj (fnMade name (qualnameIn (envX cn cs L a ccd cl) name name) params body scope clos doc pm c' ctv)) → hp' c' = some (.obj oc) → oc.data = .fields fs → fs[1]? = some (.str (qualnameIn (envX cn cs L a ccd cl) name name) t) →
      ST prog w F L m hp' h' → wpAny (model prog w) A (storeName (envX cn cs L a ccd cl) name (.ref f)) (fun _ s'' => ∃ af m' hp' h' tk', s'' = { s with heap := h', toks := tk' } ∧ ST prog w F L m' hp' h' ∧ FR af .next ∧ Q af m' hp') (fun _ _ => False) { s with heap := h', toks := tk } :=
    fun f c' oc fs t ctv doc pm hp' h' tk l1 l2 l3 l4 l5 l6 l7 T => wpAny_mono (h f c' oc fs t ctv doc pm hp' l1 l2 l3 l4 l5 l6 l7 _ rfl F { s with heap := h', toks := tk } hS T) (fun _ s'' ⟨m', hp'', h'', tk', e1, e2, e3⟩ => ⟨.next, m', hp'', h'', tk', by rw [e1], e2, rfl, e3⟩) fun _ _ z => z
  rcases hT₀ with e | ⟨c', oc, fs, t, e, e2, e3, e4, e5⟩
  · have hLP : L ≠ P := fun q => by rw [← q, hT.hl] at e; cases e
    refine makeFunction_K (c := c) (P := P) (ps := #[]) (mg := mg) hcl rfl G' hcd (N.hd.keeps hin) (hT.hr.ob _ _ e).2 trivial rfl hgP hBA fun c' ctv doc h' tk hx hge hlt hrec htb => ?_
    obtain ⟨c₂, oc, fs, t, q1, q2, q3, q4⟩ := hrec
    cases q1
    have hcP : c' ≠ P := fun q => by rw [q] at hge; exact Nat.lt_irrefl _ (Nat.lt_of_lt_of_le (hT.hr.lt e) hge)
    obtain ⟨n1, n2⟩ := hT.hr.fresh hge
    have H1 : HR prog w F (up hp P (.obj (tabObj #[rawInt pos.line, rawInt pos.col, .ref c']))) h' := hT.hr.chg e hx htb
    have H2 : HR prog w F (up (up hp P (.obj (tabObj #[rawInt pos.line, rawInt pos.col, .ref c']))) c' (.obj oc)) h' := H1.add n2 q2
    have H3 := H2.new (a := h'.objs.size) (o := .obj (fnMade name (qualnameIn (envX cn cs L a ccd cl) name name) params body scope clos doc ((mg "__name__").getD .none) c' ctv)) (h' := h'.push (fnMade name (qualnameIn (envX cn cs L a ccd cl) name name) params body scope clos doc ((mg "__name__").getD .none) c' ctv)) (Nat.le_refl _) push_get (Heap.get?_push_size _ rfl)
    have hfP : h'.objs.size ≠ P := fun q => by rw [q] at hlt; exact Nat.lt_irrefl _ (Nat.lt_trans (Nat.lt_of_lt_of_le (hT.hr.lt e) hge) hlt)
    have hfc : c' ≠ h'.objs.size := Nat.ne_of_lt hlt
    have hfn : hp h'.objs.size = none := (hT.hr.fresh (by omega)).1
    have hLs : L < s.heap.objs.size := by obtain ⟨_, ⟨o, es, ep, e, _⟩, _⟩ := hT.frm; exact Heap.lt_size e
    refine fin h'.objs.size c' oc fs t ctv doc _ _ _ _ (fun b o hb e => ?_) (.inr ⟨c', oc, fs, t, ?_, ?_, q3, q4, hcP⟩) hfn (up_same _ _ _) ?_ q3 q4 ⟨H3, hT.frm.keep fun ob q => push_get _ _ (hx _ _ hLP q), hT.fl, ?_⟩
    · have h1 : b ≠ h'.objs.size := fun q => by rw [q, hfn] at e; cases e
      have h2 : b ≠ c' := fun q => by rw [q, n1] at e; cases e
      rw [up_ne h1, up_ne h2, up_ne hb]; exact e
    · rw [up_ne hfP.symm, up_ne hcP.symm]; exact up_same _ _ _
    · rw [up_ne hfc]; exact up_same _ _ _
    · rw [up_ne hfc]; exact up_same _ _ _
    · rw [up_ne (Nat.ne_of_lt (Nat.lt_trans (Nat.lt_of_lt_of_le hLs hge) hlt)), up_ne (Nat.ne_of_lt (Nat.lt_of_lt_of_le hLs hge)), up_ne hLP]; exact hT.hl
  · have hLP : L ≠ P := fun q => by rw [← q, hT.hl] at e; cases e
    refine makeFunction_hit (c := c) (P := P) (ps := #[rawInt pos.line, rawInt pos.col, .ref c']) (mg := mg) (cv := .ref c') hcl rfl G' hcd (N.hd.keeps hin) (hT.hr.ob _ _ e).2 (by simp [TriplesOk, rawInt]) (codeAmong_one _ _) hBA fun ctv doc h' tk hk hsz => ?_
    have H1 : HR prog w F hp h' := hT.hr.keep hk
    have H3 := H1.new (a := h'.objs.size) (o := .obj (fnMade name (qualnameIn (envX cn cs L a ccd cl) name name) params body scope clos doc ((mg "__name__").getD .none) c' ctv)) (h' := h'.push (fnMade name (qualnameIn (envX cn cs L a ccd cl) name name) params body scope clos doc ((mg "__name__").getD .none) c' ctv)) (Nat.le_refl _) push_get (Heap.get?_push_size _ rfl)
    have hfn : hp h'.objs.size = none := (H1.fresh (Nat.le_refl _)).1
    have hLs : L < s.heap.objs.size := by obtain ⟨_, ⟨o, es, ep, e, _⟩, _⟩ := hT.frm; exact Heap.lt_size e
    have l0 : Les hp (up hp h'.objs.size (.obj (fnMade name (qualnameIn (envX cn cs L a ccd cl) name name) params body scope clos doc ((mg "__name__").getD .none) c' ctv))) := Les.refl.new hfn
    refine fin h'.objs.size c' oc fs t ctv doc _ _ _ _ (les_m l0) (TabOk.les (.inr ⟨c', oc, fs, t, e, e2, e3, e4, e5⟩) l0) hfn (up_same _ _ _) (l0 _ _ e2) e3 e4 ⟨H3, hT.frm.keep fun ob q => push_get _ _ (hk _ _ q), hT.fl, ?_⟩
    rw [up_ne (Nat.ne_of_lt (Nat.lt_of_lt_of_le hLs hsz))]; exact hT.hl
end
end Mine
end
section
open PySem PySem.W PyProof.Rows PySem.Calls
namespace Mine
abbrev absI (i : Int) : Int := if i < 0 then -i else i
theorem paired_abs : ∀ {ns : List Int} {vs ys : List Value}, VRs (iL ns) vs → Paired (fun v y => ∃ i t u, v = .int i t ∧ y = .int (absI i) u) vs ys → VRs (iL (ns.map absI)) ys
  | [], _, _, .nil, .nil => .nil
  | i :: ns, _, _, .cons ⟨t, e⟩ r, .cons ⟨j, t', u, e1, e2⟩ p => by
    subst e2
    rw [e] at e1; cases e1
    exact .cons ⟨u, rfl⟩ (paired_abs r p)
section
variable {prog : Program} {w : World} {h₁ : Heap} {K : Frag} {A : Around} {L a : Addr} {m : Lm} {hp : Hp} {cn : Str} {cs : Scope} {ccd : Value} {cl : List (Str × Addr)} {x : Str} {Q : AV → Hp → Prop}
theorem EV_CompAbs (C : CX prog w K h₁) (hh : A.handled = none) {iter : Expr} {px p1 p2 p3 p4 p5 pos : Pos} {scope : Scope}
    (na : nsIn K mainGlobals "abs" = some none) (ni : nsIn K mainGlobals "int" = some none) (ba : bootBuiltins "abs" = some (.builtin "abs")) (bi : bootBuiltins "int" = some (.type "int"))
    (hclos : closureFor scope (envX cn cs L a ccd cl) = pure []) (hcell : ∀ y ∈ scope.names, y.2 ≠ .cell) (hkind : scope.kind = .function) (hnames : ∀ y ∈ scope.names, y.2 = .local → scope.names.lookup y.1 = some .local) (hx : scope.names.lookup x = some .local)
    (hxa : (relabel scope (envX cn cs L a ccd cl)).names.lookup ("abs" : Str) = some .globalImplicit) (hxi : (relabel scope (envX cn cs L a ccd cl)).names.lookup ("int" : Str) = some .globalImplicit) (hxx : (relabel scope (envX cn cs L a ccd cl)).names.lookup x = some .local) (hxd : (x == ("__debug__" : Str)) = false)
    (h : EV prog w h₁ A L m (eval iter (envX cn cs L a ccd cl)) hp fun v hp₁ => ∃ l ns, v = .ref l ∧ hp₁ l = some (.list (iL ns)) ∧ ns.length ≤ 100000 ∧ ∀ D, hp₁ D = none → Q (.ref D) (up hp₁ D (.list (iL (ns.map absI)))))
    (hs : ∀ z, foldedSetIterable iter (envX cn cs L a ccd cl) z = pure z := by intro _; rfl) :
    EV prog w h₁ A L m (eval (.ListComp (.Call (.Name "abs" p1) [.Call (.Name "int" p2) [.Name x p3] [] p4] [] p5) [⟨.Name x px, iter, [], 0⟩] scope pos) (envX cn cs L a ccd cl)) hp Q := fun F s hS hT => by
  refine wpAny_ListComp_free (fun _ => true) (fun v y => ∃ i t u, v = .int i t ∧ y = .int (absI i) u) hclos hcell hkind hnames hx (wpAny_mono (h F s hS hT) (fun v s₁ ⟨av, hp₁, h', tk, e1, T1, R1, l, ns, ea, hl, hlen, hQ⟩ => ?_) fun _ _ z => z) hs
  subst e1 ea
  cases R1
  obtain ⟨_, vs, pl, r⟩ := T1.hr.ob _ _ hl
  have hlv : ns.length = vs.length := by have := r.length; simpa using this
  have hll : l < h'.objs.size := T1.hr.lt hl
  obtain ⟨mg, G⟩ := C.g
  obtain ⟨mb, B, B2⟩ := C.b
  have ga := mg_none_of C.X G na
  have gi := mg_none_of C.X G ni
  have kp : ∀ b o, h'.get? b = some o → b ∉ [h'.objs.size] := fun b o e q => by
    rw [List.mem_singleton.mp q] at e
    exact Nat.lt_irrefl _ (Heap.lt_size e)
  refine wpAny_pyIter_list pl.isList ?_
  refine ⟨h'.objs.size, _, _, _, _, _, rfl, Walks.list hh h'.objs.size l (Nat.ne_of_lt hll) vs.toArray, by rw [List.size_toArray, ← hlv]; exact Nat.le_trans hlen (by decide), ⟨⟨_, Heap.get?_push_size _ rfl, rfl, rfl⟩, pl.isList.at fun o e => push_get _ _ e⟩, fun b hb => ?_, ⟨fun C i v s₃ m₃ E' _ _ _ _ _ _ => by rw [List.forIn_nil]; exact wpAny_pure ⟨rfl, s₃.heap, s₃.toks, rfl, fun _ _ e => e⟩, fun D i v s₃ m₃ E' hD hP _ hn hm hk _ => ?_⟩, fun D h'' tk'' ys vs' hD hlist hplain hvl hP hF hk => ?_⟩
  · have e : ({ s with heap := h', toks := tk } : Shared).heap.objs.size = h'.objs.size := rfl
    rw [Heap.size_push]
    rcases List.mem_cons.mp hb with rfl | hb
    · exact Nat.lt_succ_self _
    · rw [List.mem_singleton.mp hb]; exact Nat.lt_succ_of_lt hll
  · obtain ⟨z, g1, g2⟩ := r.get' (i := i) (v := v) (by simpa using hP)
    rw [List.getElem?_map] at g1
    obtain ⟨j, _, rfl⟩ := Option.map_eq_some_iff.mp g1
    obtain ⟨t, rfl⟩ := g2
    have k3 : ∀ b o, h₁.get? b = some o → s₃.heap.get? b = some o := fun b o e => hk b o (kp b o (hS.into T1.hr b o e)) (push_get _ _ (hS.into T1.hr b o e))
    refine Call_ (Name_function_global (env := compEnvC scope [] D (envX cn cs L a ccd cl)) hkind hxa (loadGlobal_builtin (G.keeps k3) ga (B.keeps k3) ((B2 "abs" (by decide)).trans ba) ?_))
    refine PyProof.Rows.callWith_builtin1 (args_cons ?_)
    refine Call_ (Name_function_global (env := compEnvC scope [] D (envX cn cs L a ccd cl)) hkind hxi (loadGlobal_builtin (G.keeps k3) gi (B.keeps k3) ((B2 "int" (by decide)).trans bi) ?_))
    refine PyProof.Rows.callWith_type1 (args_cons ?_)
    refine wpAny_Name (wpAny_loadName_local (env := compEnvC scope [] D (envX cn cs L a ccd cl)) hkind hxx hn hm ?_) hxd
    refine args_nil (call_int_int ?_)
    refine args_nil (call_abs_int fun u tk => ?_)
    exact ⟨⟨j, t, u, rfl, rfl⟩, s₃.heap, tk, rfl, fun _ _ e => e⟩
  · have hDn : hp₁ D = none := by
      cases q : hp₁ D with
      | none => rfl
      | some o =>
        obtain ⟨ob, e⟩ := (T1.hr.ob _ _ q).2.has
        have := push_get (o := { cls := .type "list_iterator", data := .fields #[.ref l, .int 0 0] }) _ _ e
        exact absurd (this.symm.trans hD) (by simp)
    have hDF : F D = none := by
      cases q : F D with
      | none => rfl
      | some o =>
        have := push_get (o := { cls := .type "list_iterator", data := .fields #[.ref l, .int 0 0] }) _ _ (T1.hr.fz _ _ q)
        exact absurd (this.symm.trans hD) (by simp)
    have kk : ∀ b o, h'.get? b = some o → h''.get? b = some o := fun b o e => hk b o (kp b o e) (push_get _ _ e)
    have hvv : vs' = vs := by
      refine List.ext_getElem? fun j => ?_
      cases q : vs'[j]? with
      | some v => have := hP j v q; simpa using this.symm
      | none =>
        rw [List.getElem?_eq_none_iff] at q
        rw [hvl, List.size_toArray] at q
        exact (List.getElem?_eq_none q).symm
    subst hvv
    have hF2 : Paired (fun v y => ∃ i t u, v = .int i t ∧ y = .int (absI i) u) vs' ys.toList := by rw [List.filter_eq_self.mpr (fun _ _ => rfl)] at hF; exact hF
    have hLD : L ≠ D := fun q => by
      obtain ⟨_, ⟨o, es, ep, e, _⟩, _⟩ := T1.frm
      have := push_get (o := { cls := .type "list_iterator", data := .fields #[.ref l, .int 0 0] }) _ _ e
      rw [q] at this
      exact absurd (this.symm.trans hD) (by simp)
    exact ⟨.ref D, up hp₁ D (.list (iL (ns.map absI))), h'', tk'', rfl, ⟨(T1.hr.keep kk).add hDF ⟨ys.toList, by simpa using hplain, paired_abs r hF2⟩, T1.frm.keep fun ob e => kk _ _ e, T1.fl, by rw [up_ne hLD]; exact T1.hl⟩, rfl, hQ D hDn⟩
theorem vrs_ints {vs : List Value} {ns : List Int} (h : IntsAre vs ns) : VRs (iL ns) vs := by
  induction h with
  | nil => exact .nil
  | cons n t _ ih => exact .cons ⟨t, rfl⟩ ih
/-- a slice of a list that stood before -/
theorem EV_SliceF {env : Env} {pos : Pos} {value : Expr} {lower upper : Option Expr} {p : Pos}
    (h : EV prog w h₁ A L m (eval value env) hp fun a hp₁ => PT prog w h₁ A L m lower env hp₁ fun lo hp₂ => PT prog w h₁ A L m upper env hp₂ fun hi hp₃ =>
      ∃ l xs vs ys, a = .ref l ∧ h₁.IsList l vs.toArray ∧ VRs xs vs ∧ xs.length ≤ 100000 ∧ (∀ vs : List Value, VRs xs vs → VRs ys (slicePick vs.toArray lo hi none).toList) ∧ ∀ b, hp₃ b = none → Q (.ref b) (up hp₃ b (.list ys)))
    (ht : ∀ o r, letTemporaryGo value o r = pure () := by intro _ _; rfl) :
    EV prog w h₁ A L m (eval (.Subscript value (.Slice lower upper none p) pos) env) hp Q := fun F s hS hT => by
  refine wpAny_Subscript_list_slice (wpAny_mono (h F s hS hT) (fun va s₁ ⟨a, hp₁, h', tk, e1, T1, R1, q1⟩ => ?_) fun _ _ z => z) ht
  subst e1
  refine wpAny_mono (q1 F { s with heap := h', toks := tk } hS T1) (fun vb s₂ ⟨lo, hp₂, h'', tk', e2, T2, R2, q2⟩ => ?_) fun _ _ z => z
  subst e2
  refine wpAny_mono (q2 F { s with heap := h'', toks := tk' } hS T2) (fun vc s₃ ⟨hi, hp₃, h3, tk3, e3, T3, R3, q3⟩ => ?_) fun _ _ z => z
  subst e3
  obtain ⟨l, xs, vs, ys, ea, hl, r, hlen, hy, hQ⟩ := q3
  subst ea
  cases R1
  refine ⟨l, vs.toArray, lo, hi, rfl, hl.at fun o e => hS.into T3.hr _ _ e, by rw [List.size_toArray, ← r.length]; exact Nat.le_trans hlen (by decide), R2, R3, ?_⟩
  have g0 : (h3.push { cls := .type "slice", data := .fields #[vb, vc, .none] }).objs.size = h3.objs.size + 1 := Heap.size_push ..
  have key : ∀ b o, h3.get? b = some o → ((h3.push { cls := .type "slice", data := .fields #[vb, vc, .none] }).push { cls := .type "list", data := .seq (slicePick vs.toArray lo hi none) }).get? b = some o :=
    fun b o e => Heap.get?_push_of_some _ (Heap.get?_push_of_some _ e)
  refine ⟨.ref (h3.objs.size + 1), up hp₃ (h3.objs.size + 1) (.list ys), _, tk3, rfl, ⟨T3.hr.new (Nat.le_succ _) key ⟨(slicePick vs.toArray lo hi none).toList, ⟨0, ?_⟩, hy _ r⟩, T3.frm.keep fun _ e => key _ _ e, T3.fl, ?_⟩, rfl, hQ _ (T3.hr.fresh (Nat.le_succ _)).1⟩
  · have := Heap.get?_push_size (h3.push { cls := .type "slice", data := .fields #[vb, vc, .none] }) (o := { cls := .type "list", data := .seq (slicePick vs.toArray lo hi none) }) rfl
    rw [g0] at this
    simpa using this
  · obtain ⟨_, ⟨oL, _, _, eL, _⟩, _⟩ := T3.frm
    rw [up_ne (Nat.ne_of_lt (Nat.lt_succ_of_lt (Heap.lt_size eL)))]; exact T3.hl
end
end Mine
end
section
open PySem PySem.W PyProof.Rows PySem.Calls
namespace Mine
section
variable {prog : Program} {w : World} {h₁ : Heap} {K : Frag} {A : Around} {L a : Addr} {m : Lm} {hp : Hp} {cn : Str} {cs : Scope} {ccd : Value} {cl : List (Str × Addr)}
  {x y : Str} {pos px py pt : Pos} {k : Nat} {Q : AF → Lm → Hp → Prop}


def ForTupA (prog : Program) (w : World) (h₁ : Heap) (A : Around) (L : Addr) (x : Str) (body : List Stmt) (env : Env) (Q : AF → Lm → Hp → Prop) (J : Addr → List AV → Nat → Lm → Hp → Prop) (m : Lm) (v : AV) (hp₁ : Hp) : Prop := ∃ l xs, v = .ref l ∧ (∀ i m hp, J l xs i m hp → hp l = some (.tup xs)) ∧ J l xs 0 m hp₁ ∧
      (∀ (i : Nat) m hp v, xs[i]? = some v → J l xs i m hp → SV prog w h₁ A L ((x, v) :: m) (execs body env) hp (Back Q (J l xs (i + 1)))) ∧
      (∀ m hp, J l xs xs.length m hp → Q .next m hp)
theorem SV_For_tupA {iter : Expr} {body : List Stmt} (hh : A.handled = none) (J : Addr → List AV → Nat → Lm → Hp → Prop)
    (h : EV prog w h₁ A L m (eval iter (envX cn cs L a ccd cl)) hp (ForTupA prog w h₁ A L x body (envX cn cs L a ccd cl) Q J m))
    (hk : cs.kind = .function := by rfl) (hx : (envX cn cs L a ccd cl).kindOf x = some .local := by rfl) (hs : ∀ z, foldedSetIterable iter (envX cn cs L a ccd cl) z = pure z := by intro _; rfl) :
    SV prog w h₁ A L m (exec (.For (.Name x px) iter body [] pos) (envX cn cs L a ccd cl)) hp Q := fun F s hS hT => by
  refine wpAny_For (wpAny_mono (h F s hS hT) (fun va s₁ ⟨av, hp₁, h', tk, e1, T1, R1, l, xs, ea, src, j0, turn, done⟩ => ?_) fun _ _ e => e) hs
  subst e1 ea
  cases R1
  obtain ⟨_, vs, pl, _⟩ := T1.hr.ob _ _ (src _ _ _ j0)
  refine wpAny_pyIter_tuple pl ?_
  have hN := T1.newOwn (Nat.le_refl _)
  have hne : ∀ {F : Fz} {s : Shared} {m : Lm} {hp : Hp}, hp l = some (.tup xs) → Own F L hp [h'.objs.size] → l ≠ h'.objs.size := fun sr O q => by
    have := (O _ (List.mem_singleton.mpr rfl)).2.1
    rw [← q, sr] at this; cases this
  refine for_core (m := m) (hp := hp₁) (own := [h'.objs.size]) (N := xs.length) (St := fun i h => h.IsTupleIter h'.objs.size l i)
    (Src := fun hp => hp l = some (.tup xs)) (Step := fun i _ m m' => ∃ v, xs[i]? = some v ∧ m' = (x, v) :: m) (J l xs)
    (fun i h h'' st k => let ⟨o, e, r⟩ := st; ⟨o, k _ (List.mem_singleton.mpr rfl) o e, r⟩) (fun i h st b hb => by rw [List.mem_singleton.mp hb]; obtain ⟨o, e, _⟩ := st; exact ⟨o, e⟩) ?_ ?_ src (fun i m₁ hp₂ m' hi hj e => by obtain ⟨v, e1, rfl⟩ := e; exact turn i m₁ hp₂ v e1 hj) done hS ?_ ?_ ?_ j0
  · rintro i F s m hp hi sr hS T O st
    obtain ⟨_, ws, pl', r⟩ := T.hr.ob _ _ sr
    obtain ⟨vc, g1, g2⟩ := r.get (List.getElem?_eq_getElem hi)
    refine wpAny_pyNext_tuple_item st pl' (x := vc) (by simpa using g1) fun h2 st2 sb2 => ⟨vc, rfl, wpAny_pure ?_⟩
    have T2 : ST prog w F L m hp h2 := T.own O (fun b ob hb e => sb2.extBut b ob (fun q => hb (by rw [q]; exact List.mem_singleton.mpr rfl)) e)
    refine asg_name (v := xs[i]) (s := { s with heap := h2 }) hS T2 g2 hk hx fun h3 tk3 T3 sb => ⟨_, h3, tk3, rfl, T3, ?_, _, List.getElem?_eq_getElem hi, rfl⟩
    obtain ⟨o, e, r⟩ := st2
    exact ⟨o, sb.extBut _ o (fun q => (O _ (List.mem_singleton.mpr rfl)).2.2 q) e, r⟩
  · rintro F s m hp sr hS T O st
    obtain ⟨_, ws, pl', r⟩ := T.hr.ob _ _ sr
    have W := Walks.tuple (prog := prog) (w := w) hh h'.objs.size l (hne (s := s) (m := m) sr O) ws.toArray
    have e : ws.toArray.size = xs.length := by simp [r.length]
    rw [e] at W
    exact W.done s _ _ ⟨st, pl'⟩ fun h2 tk2 k2 => ⟨rfl, h2, tk2, rfl, T.own O fun b ob hb e => k2 b ob hb e⟩
  · exact ⟨T1.hr.keep push_get, T1.frm.keep fun _ e => push_get _ _ e, T1.fl, T1.hl⟩
  · intro b hb; rw [List.mem_singleton.mp hb]; exact hN
  · exact ⟨_, Heap.get?_push_size _ rfl, rfl, rfl⟩

end
end Mine
end
section
open PySem PySem.W PyProof.Rows
set_option maxHeartbeats 8000000
namespace Mine
def view : Program := { PySem.Challenge.pw_tk0048_01 with main := { PySem.Challenge.pw_tk0048_01.main with body := PySem.Challenge.pw_tk0048_01.main.body.filter fun s => match s with | .Assign .. => false | _ => true } }
theorem boot1 : ∀ w : World, (fencedOpening treeTable PySem.Challenge.pw_tk0048_01 w 2832).map (fun s => (s.heap, s.gens, s.drawn, s.toks)) = some (boot_heap w.params, Array.mk [], boot_drawn, boot_toks) :=
  boot_open (by rfl) (by decide) (fun s => by rfl)
theorem left_boot {p q : Program} {loose : List PySem.Str} {Xt : Shared → Bool} {α : Type} {Yf : Shared → α} {Ya : World → α} {N : Nat} {g0 : Bool}
    (b : ∀ w : World, (fencedOpening treeTable p w N).map (fun s => (s.heap, s.gens, s.drawn, s.toks)) = some (boot_heap w.params, Array.mk [], boot_drawn, boot_toks))
    (h : ∀ (w : World) (os : OsState), (topFrom treeTable p w N ⟨boot_heap w.params, Array.mk [], boot_drawn, boot_toks, os⟩).map (fun s => (openSeen q loose (importedModules p.main.body) Xt g0 s, Yf s)) = some (openGood q loose, Ya w)) :
    LeftO p q loose Xt Yf Ya N g0 := fun w => by
  obtain ⟨⟨h', gs, d, k, os⟩, e, e'⟩ := Option.map_eq_some_iff.mp (b w)
  obtain ⟨rfl, rfl, rfl, rfl⟩ : h' = _ ∧ gs = _ ∧ d = _ ∧ k = _ := by simpa using e'
  unfold openEnds
  rw [e]
  exact h w os
theorem saidT : OpenLaw.wellSaid PySem.Challenge.rw_tk0048_01 = true := by
  unfold OpenLaw.wellSaid OpenRow.wellSaid OpenRow.partSaid looksOpen
  repeat' (with_reducible refine look_both ?_ ?_)
  all_goals (try rw [PySem.W.Fast.te8326940854005059898])
  all_goals (try rw [PySem.W.Fast.te17119622794617984870])
  all_goals (try rw [PySem.W.Fast.te8377067652309620493])
  all_goals (try rw [PySem.W.Fast.te11788848310118352699])
  all_goals decide +kernel
local macro_rules | `(tactic| o_head $H) => `(tactic| (
  refine holds_open (q := view) (loose := []) (Xt := fun s => xlAt view [] s && recOk (RowW.records PySem.Challenge.rw_tk0048_01.row.toRowW) s) (XP := XL view []) (Yf := Hook.obs $H) (Ya := Hook.val $H) (YP := Hook.says $H) (N := 2832) ?hl (Hook.of $H) (Hook.keeps $H) (fun s e => xl_of s (Bool.and_eq_true_iff.mp e).1) XL.keeps (by rfl) (by rfl) (by rfl) (fun s e => recFacts_of (Bool.and_eq_true_iff.mp e).2) rfl (by first | assumption | decide +kernel) (by decide +kernel) ⟨rfl, rfl, rfl, rfl, rfl, by decide +kernel⟩ ?hw ?hc
  case hl => (refine left_boot boot1 fun w os => ?_; unfold topFrom; (try rw [PySem.W.Fast.te14082659384304107361]); (try rw [PySem.W.Fast.te14364793385576792824]); (try rw [PySem.W.Fast.te4187177175401517315]); kernel_rfl)
  ))
local macro_rules | `(tactic| o_law) => `(tactic| refine holds_law saidT fun said => ?_)
open_top hd for PySem.Challenge.rw_tk0048_01
end Mine
end
section
open PySem PySem.W PyProof.Rows PySem.Calls
namespace Mine
theorem gnormal (P : Params) : nsIn (hd.heap_1 P) mainGlobals (PySem.Str.ofString "normal") = some (some (.ref 46)) := by kernel_rfl
theorem gcompare (P : Params) : nsIn (hd.heap_1 P) mainGlobals (PySem.Str.ofString "compare") = some (some (.ref 53)) := by kernel_rfl
theorem gdivrem_limb (P : Params) : nsIn (hd.heap_1 P) mainGlobals (PySem.Str.ofString "divrem_limb") = some (some (.ref 60)) := by kernel_rfl
theorem gshift_left (P : Params) : nsIn (hd.heap_1 P) mainGlobals (PySem.Str.ofString "shift_left") = some (some (.ref 67)) := by kernel_rfl
theorem gshift_right (P : Params) : nsIn (hd.heap_1 P) mainGlobals (PySem.Str.ofString "shift_right") = some (some (.ref 74)) := by kernel_rfl
theorem gbits (P : Params) : nsIn (hd.heap_1 P) mainGlobals (PySem.Str.ofString "bits") = some (some (.ref 81)) := by kernel_rfl
theorem gbit (P : Params) : nsIn (hd.heap_1 P) mainGlobals (PySem.Str.ofString "bit") = some (some (.ref 88)) := by kernel_rfl
theorem godd_powers (P : Params) : nsIn (hd.heap_1 P) mainGlobals (PySem.Str.ofString "odd_powers") = some (some (.ref 95)) := by kernel_rfl
theorem gwindow_at (P : Params) : nsIn (hd.heap_1 P) mainGlobals (PySem.Str.ofString "window_at") = some (some (.ref 102)) := by kernel_rfl
theorem gby_windows (P : Params) : nsIn (hd.heap_1 P) mainGlobals (PySem.Str.ofString "by_windows") = some (some (.ref 109)) := by kernel_rfl
theorem gcheck_modulus (P : Params) : nsIn (hd.heap_1 P) mainGlobals (PySem.Str.ofString "check_modulus") = some (some (.ref 116)) := by kernel_rfl
theorem gunit_rest (P : Params) : nsIn (hd.heap_1 P) mainGlobals (PySem.Str.ofString "unit_rest") = some (some (.ref 123)) := by kernel_rfl
theorem gdivided_times (P : Params) : nsIn (hd.heap_1 P) mainGlobals (PySem.Str.ofString "divided_times") = some (some (.ref 130)) := by kernel_rfl
theorem gpower_mod (P : Params) : nsIn (hd.heap_1 P) mainGlobals (PySem.Str.ofString "power_mod") = some (some (.ref 137)) := by kernel_rfl
theorem gmul_school (P : Params) : nsIn (hd.heap_1 P) mainGlobals (PySem.Str.ofString "mul_school") = some (some (.ref 144)) := by kernel_rfl
theorem gdivrem_small (P : Params) : nsIn (hd.heap_1 P) mainGlobals (PySem.Str.ofString "divrem_small") = some (some (.ref 151)) := by kernel_rfl
theorem gguessed_limb (P : Params) : nsIn (hd.heap_1 P) mainGlobals (PySem.Str.ofString "guessed_limb") = some (some (.ref 158)) := by kernel_rfl
theorem gtake_away (P : Params) : nsIn (hd.heap_1 P) mainGlobals (PySem.Str.ofString "take_away") = some (some (.ref 165)) := by kernel_rfl
theorem gput_back (P : Params) : nsIn (hd.heap_1 P) mainGlobals (PySem.Str.ofString "put_back") = some (some (.ref 172)) := by kernel_rfl
theorem gdivide_rows (P : Params) : nsIn (hd.heap_1 P) mainGlobals (PySem.Str.ofString "divide_rows") = some (some (.ref 179)) := by kernel_rfl
theorem gdivrem_school (P : Params) : nsIn (hd.heap_1 P) mainGlobals (PySem.Str.ofString "divrem_school") = some (some (.ref 186)) := by kernel_rfl
theorem glaw_sifted0 (P : Params) : nsIn (hd.heap_1 P) mainGlobals (PySem.Str.ofString "_law_sifted") = some (some (.ref 193)) := by kernel_rfl
theorem glaw_limbs0 (P : Params) : nsIn (hd.heap_1 P) mainGlobals (PySem.Str.ofString "_law_limbs") = some (some (.ref 200)) := by kernel_rfl
theorem glaw_chain0 (P : Params) : nsIn (hd.heap_1 P) mainGlobals (PySem.Str.ofString "_law_chain") = some (some (.ref 207)) := by kernel_rfl
theorem glaw_rest0 (P : Params) : nsIn (hd.heap_1 P) mainGlobals (PySem.Str.ofString "_law_rest") = some (some (.ref 214)) := by kernel_rfl
theorem glaw_most0 (P : Params) : nsIn (hd.heap_1 P) mainGlobals (PySem.Str.ofString "_law_most") = some (some (.ref 221)) := by kernel_rfl
theorem nlen (P : Params) : nsIn (hd.heap_1 P) mainGlobals (PySem.Str.ofString "len") = some none := by kernel_rfl
theorem nmax (P : Params) : nsIn (hd.heap_1 P) mainGlobals (PySem.Str.ofString "max") = some none := by kernel_rfl
theorem nmin (P : Params) : nsIn (hd.heap_1 P) mainGlobals (PySem.Str.ofString "min") = some none := by kernel_rfl
theorem nabs (P : Params) : nsIn (hd.heap_1 P) mainGlobals (PySem.Str.ofString "abs") = some none := by kernel_rfl
theorem nrange (P : Params) : nsIn (hd.heap_1 P) mainGlobals (PySem.Str.ofString "range") = some none := by kernel_rfl
theorem nenumerate (P : Params) : nsIn (hd.heap_1 P) mainGlobals (PySem.Str.ofString "enumerate") = some none := by kernel_rfl
theorem nint (P : Params) : nsIn (hd.heap_1 P) mainGlobals (PySem.Str.ofString "int") = some none := by kernel_rfl
theorem blen : bootBuiltins (PySem.Str.ofString "len") = some (.builtin "len") := by decide +kernel
theorem bmax : bootBuiltins (PySem.Str.ofString "max") = some (.builtin "max") := by decide +kernel
theorem bmin : bootBuiltins (PySem.Str.ofString "min") = some (.builtin "min") := by decide +kernel
theorem babs : bootBuiltins (PySem.Str.ofString "abs") = some (.builtin "abs") := by decide +kernel
theorem brange : bootBuiltins (PySem.Str.ofString "range") = some (.type "range") := by decide +kernel
theorem benumerate : bootBuiltins (PySem.Str.ofString "enumerate") = some (.type "enumerate") := by decide +kernel
theorem bint : bootBuiltins (PySem.Str.ofString "int") = some (.type "int") := by decide +kernel
end Mine
end
section
open PySem
namespace Mine
/-! plain mathematics: limbs -/
theorem pw_pos (W : Nat) : (0 : Int) < 2 ^ W := Int.pow_pos (by decide)
theorem npw_pos (W : Nat) : 0 < 2 ^ W := Nat.pow_pos (by decide)
theorem cast_pw (W : Nat) : ((2 ^ W : Nat) : Int) = (2 : Int) ^ W := by simp

def lim (W v : Nat) : List Int := if h : v = 0 ∨ W = 0 then [] else ((v % 2 ^ W : Nat) : Int) :: lim W (v / 2 ^ W)
termination_by v
decreasing_by exact Nat.div_lt_self (by lia) (Nat.one_lt_two_pow (by lia))
theorem lim_zero (W : Nat) : lim W 0 = [] := by unfold lim; simp
theorem lim_pos {W v : Nat} (hW : 0 < W) (hv : 0 < v) : lim W v = ((v % 2 ^ W : Nat) : Int) :: lim W (v / 2 ^ W) := by
  rw [lim, dif_neg (by lia)]

def val (B : Int) : List Int → Int
  | [] => 0
  | x :: r => x + B * val B r
theorem val_nil (B : Int) : val B [] = 0 := rfl
theorem val_cons (B x : Int) (r : List Int) : val B (x :: r) = x + B * val B r := rfl
theorem val_append (B : Int) : ∀ a b : List Int, val B (a ++ b) = val B a + B ^ a.length * val B b
  | [], b => by simp [val]
  | x :: r, b => by
    rw [List.cons_append, val_cons, val_cons, val_append B r b, List.length_cons, Int.pow_succ]
    grind
theorem val_set (B : Int) : ∀ (a : List Int) (i : Nat) (x y : Int), a[i]? = some y → val B (a.set i x) = val B a + (x - y) * B ^ i
  | [], _, _, _, h => by simp at h
  | z :: r, 0, x, y, h => by
    simp at h; subst h
    simp only [List.set_cons_zero, val_cons, Int.pow_zero]; lia
  | z :: r, i + 1, x, y, h => by
    rw [List.set_cons_succ, val_cons, val_cons, val_set B r i x y (by simpa using h), Int.pow_succ]
    grind
theorem val_snoc (B : Int) (a : List Int) (x : Int) : val B (a ++ [x]) = val B a + B ^ a.length * x := by
  rw [val_append]; simp [val]
theorem val_replicate (B : Int) : ∀ n : Nat, val B (List.replicate n 0) = 0
  | 0 => rfl
  | n + 1 => by rw [List.replicate_succ, val_cons, val_replicate B n]; simp

/-- every limb in its range -/
def Lim (B : Int) (ns : List Int) : Prop := ∀ x ∈ ns, 0 ≤ x ∧ x < B
theorem Lim.nil {B : Int} : Lim B [] := fun _ h => by simp at h
theorem Lim.cons {B x : Int} {r : List Int} (h0 : 0 ≤ x) (h1 : x < B) (h : Lim B r) : Lim B (x :: r) := fun y hy => by
  rcases List.mem_cons.mp hy with rfl | hy
  · exact ⟨h0, h1⟩
  · exact h y hy
theorem Lim.get {B : Int} {ns : List Int} (h : Lim B ns) {i : Nat} {x : Int} (e : ns[i]? = some x) : 0 ≤ x ∧ x < B := h x (List.mem_of_getElem? e)
theorem Lim.set {B : Int} {ns : List Int} (h : Lim B ns) {i : Nat} {x : Int} (h0 : 0 ≤ x) (h1 : x < B) : Lim B (ns.set i x) := fun y hy => by
  rcases List.mem_or_eq_of_mem_set hy with hy | rfl
  · exact h y hy
  · exact ⟨h0, h1⟩
theorem Lim.append {B : Int} {a b : List Int} (h : Lim B a) (k : Lim B b) : Lim B (a ++ b) := fun y hy => (List.mem_append.mp hy).elim (h y) (k y)
theorem Lim.take {B : Int} {a : List Int} (h : Lim B a) (n : Nat) : Lim B (a.take n) := fun y hy => h y (List.mem_of_mem_take hy)
theorem Lim.drop {B : Int} {a : List Int} (h : Lim B a) (n : Nat) : Lim B (a.drop n) := fun y hy => h y (List.mem_of_mem_drop hy)
theorem Lim.rep {B : Int} (hB : 0 < B) (n : Nat) : Lim B (List.replicate n 0) := fun y hy => by
  rw [(List.mem_replicate.mp hy).2]; exact ⟨Int.le_refl _, hB⟩
theorem Lim.lim {W : Nat} : ∀ v : Nat, Lim (2 ^ W) (Mine.lim W v) := fun v => by
  induction v using Nat.strongRecOn with
  | ind v ih =>
    by_cases h : v = 0 ∨ W = 0
    · unfold Mine.lim; rw [dif_pos h]; exact Lim.nil
    · rw [lim_pos (by lia) (by lia)]
      refine Lim.cons (Int.natCast_nonneg _) ?_ (ih _ (Nat.div_lt_self (by lia) (Nat.one_lt_two_pow (by lia))))
      rw [← cast_pw]; exact Int.ofNat_lt.mpr (Nat.mod_lt _ (npw_pos W))
theorem val_lim {W : Nat} (hW : 0 < W) : ∀ v : Nat, val (2 ^ W) (lim W v) = v := fun v => by
  induction v using Nat.strongRecOn with
  | ind v ih =>
    by_cases h : v = 0
    · subst h; rw [lim_zero]; rfl
    · rw [lim_pos hW (by lia), val_cons, ih _ (Nat.div_lt_self (by lia) (Nat.one_lt_two_pow (by lia))), ← cast_pw]
      have := Nat.mod_add_div v (2 ^ W)
      exact_mod_cast this
theorem val_range {B : Int} (hB : 0 < B) : ∀ {ns : List Int}, Lim B ns → 0 ≤ val B ns ∧ val B ns < B ^ ns.length
  | [], _ => by simp [val]
  | x :: r, h => by
    have h1 := h x List.mem_cons_self
    have h2 := val_range hB (ns := r) fun y hy => h y (List.mem_cons_of_mem _ hy)
    rw [val_cons, List.length_cons, Int.pow_succ]
    have a1 : 0 ≤ B * val B r := Int.mul_nonneg (Int.le_of_lt hB) h2.1
    have a2 : B * (val B r + 1) ≤ B * B ^ r.length := Int.mul_le_mul_of_nonneg_left (by lia) (Int.le_of_lt hB)
    rw [Int.mul_add] at a2
    rw [Int.mul_comm (B ^ r.length) B]
    lia

def nrm (ns : List Int) : List Int := (ns.reverse.dropWhile (· = 0)).reverse
theorem nrm_nil : nrm [] = [] := rfl
theorem nrm_snoc0 (ns : List Int) : nrm (ns ++ [0]) = nrm ns := by unfold nrm; simp
theorem nrm_snoc {x : Int} (ns : List Int) (hx : x ≠ 0) : nrm (ns ++ [x]) = ns ++ [x] := by unfold nrm; simp [hx]
theorem nrm_zero {ns : List Int} {e : Nat} (h : ns[e]? = some 0) : nrm (ns.take (e + 1)) = nrm (ns.take e) := by
  rw [List.take_add_one, h]; exact nrm_snoc0 _
theorem nrm_ne {ns : List Int} {e : Nat} {x : Int} (h : ns[e]? = some x) (hx : x ≠ 0) : nrm (ns.take (e + 1)) = ns.take (e + 1) := by
  rw [List.take_add_one, h]; exact nrm_snoc _ hx
theorem snoc_ind {P : List Int → Prop} (h0 : P []) (h1 : ∀ r x, P r → P (r ++ [x])) (l : List Int) : P l := by
  have : ∀ n (l : List Int), l.length = n → P l := by
    intro n
    induction n with
    | zero => intro l hl; rw [List.length_eq_zero_iff.mp hl]; exact h0
    | succ n ih =>
      intro l hl
      have hne : l ≠ [] := by intro e; rw [e] at hl; cases hl
      rw [← List.dropLast_concat_getLast hne]
      exact h1 _ _ (ih _ (by rw [List.length_dropLast]; lia))
  exact this _ l rfl
theorem val_nrm (B : Int) (ns : List Int) : val B (nrm ns) = val B ns := by
  refine snoc_ind (P := fun ns => val B (nrm ns) = val B ns) rfl (fun r x ih => ?_) ns
  by_cases hx : x = 0
  · subst hx; rw [nrm_snoc0, ih, val_snoc]; simp
  · rw [nrm_snoc _ hx]
theorem Lim.nrm {B : Int} {ns : List Int} (h : Lim B ns) : Lim B (nrm ns) := fun y hy => by
  unfold Mine.nrm at hy
  have := List.dropWhile_subset _ (List.mem_reverse.mp hy)
  exact h y (List.mem_reverse.mp this)
theorem nrm_length (ns : List Int) : (nrm ns).length ≤ ns.length := by
  unfold nrm
  have := (List.dropWhile_sublist (fun x : Int => decide (x = 0)) (l := ns.reverse)).length_le
  simpa using this
theorem nrm_last {ns : List Int} {x : Int} (h : (nrm ns).getLast? = some x) : x ≠ 0 := by
  revert x
  refine snoc_ind (P := fun ns => ∀ {x : Int}, (nrm ns).getLast? = some x → x ≠ 0) (fun h => by cases h) (fun r y ih => ?_) ns
  intro x h
  by_cases hy : y = 0
  · subst hy; rw [nrm_snoc0] at h; exact ih h
  · rw [nrm_snoc _ hy] at h
    simp at h; subst h; exact hy
/-- no limb nought at the end -/
def Nm (ns : List Int) : Prop := ∀ x, ns.getLast? = some x → x ≠ 0
theorem nm_tail {x : Int} {r : List Int} (h : Nm (x :: r)) : Nm r := fun y hy => h y (by
  cases r with
  | nil => cases hy
  | cons z r => rw [List.getLast?_cons_cons]; exact hy)
theorem lim_unique {W : Nat} (hW : 0 < W) : ∀ (ns : List Int) (v : Nat), Lim (2 ^ W) ns → Nm ns → val (2 ^ W) ns = v → ns = lim W v
  | [], v, _, _, h => by
    have : v = 0 := by rw [val_nil] at h; lia
    rw [this, lim_zero]
  | x :: r, v, hl, hn, h => by
    have hx := hl x List.mem_cons_self
    have hr : Lim (2 ^ W) r := fun y hy => hl y (List.mem_cons_of_mem _ hy)
    have hrv := val_range (pw_pos W) hr
    rw [val_cons] at h
    obtain ⟨u, hu⟩ := Int.eq_ofNat_of_zero_le hrv.1
    obtain ⟨z, hz⟩ := Int.eq_ofNat_of_zero_le hx.1
    have e : v = z + 2 ^ W * u := by rw [hu, hz] at h; exact_mod_cast h.symm
    have zl : z < 2 ^ W := by have := hx.2; rw [hz] at this; exact_mod_cast this
    have hv0 : 0 < v := by
      rcases Nat.eq_zero_or_pos v with h0 | h0
      · exfalso
        have hz0 : z = 0 := by lia
        have hu0 : u = 0 := by
          have : 2 ^ W * u = 0 := by lia
          rcases Nat.mul_eq_zero.mp this with q | q
          · have := npw_pos W; lia
          · exact q
        have := lim_unique hW r 0 hr (nm_tail hn) (by rw [hu, hu0])
        rw [lim_zero] at this
        subst this
        exact hn x rfl (by rw [hz, hz0]; rfl)
      · exact h0
    rw [lim_pos hW hv0]
    have e1 : v % 2 ^ W = z := by rw [e, Nat.add_mul_mod_self_left, Nat.mod_eq_of_lt zl]
    have e2 : v / 2 ^ W = u := by rw [e, Nat.add_mul_div_left _ _ (npw_pos W), Nat.div_eq_of_lt zl, Nat.zero_add]
    rw [e1, e2, ← lim_unique hW r u hr (nm_tail hn) hu, hz]
theorem nrm_eq_lim {W : Nat} (hW : 0 < W) {ns : List Int} {v : Nat} (h : Lim (2 ^ W) ns) (e : val (2 ^ W) ns = v) : nrm ns = lim W v :=
  lim_unique hW _ v h.nrm (fun _ q => nrm_last q) (by rw [val_nrm, e])
theorem lim_nm {W : Nat} : ∀ v : Nat, Nm (lim W v) := fun v => by
  induction v using Nat.strongRecOn with
  | ind v ih =>
    by_cases h : v = 0 ∨ W = 0
    · unfold Mine.lim; rw [dif_pos h]; intro x hx; cases hx
    · have hW : 0 < W := by lia
      have hv : 0 < v := by lia
      rw [lim_pos hW hv]
      intro x hx
      by_cases hq : v / 2 ^ W = 0
      · rw [hq, lim_zero] at hx
        simp at hx
        have := Nat.mod_eq_of_lt ((Nat.div_eq_zero_iff_lt (npw_pos W)).mp hq)
        have : ((v % 2 ^ W : Nat) : Int) = x := by simpa using hx
        lia
      · have := lim_pos hW (Nat.pos_of_ne_zero hq)
        rw [this, List.getLast?_cons_cons, ← this] at hx
        exact ih _ (Nat.div_lt_self (by lia) (Nat.one_lt_two_pow (by lia))) x hx
theorem lim_get {W : Nat} (hW : 0 < W) : ∀ (i v : Nat), (lim W v)[i]? = if v / 2 ^ (W * i) = 0 then none else some ((v / 2 ^ (W * i) % 2 ^ W : Nat) : Int)
  | 0, v => by
    by_cases h : v = 0
    · subst h; simp [lim_zero]
    · rw [lim_pos hW (by lia)]; simp [h]
  | i + 1, v => by
    by_cases h : v = 0
    · subst h; simp [lim_zero]
    · rw [lim_pos hW (by lia), List.getElem?_cons_succ, lim_get hW i (v / 2 ^ W), Nat.div_div_eq_div_mul, ← Nat.pow_add]
      have : W + W * i = W * (i + 1) := by rw [Nat.mul_succ]; lia
      rw [this]
theorem lim_len_iff {W : Nat} (hW : 0 < W) (i v : Nat) : i < (lim W v).length ↔ v / 2 ^ (W * i) ≠ 0 := by
  have := lim_get hW i v
  constructor
  · intro h e
    rw [if_pos e] at this
    have := List.getElem?_eq_none_iff.mp this
    lia
  · intro h
    rw [if_neg h] at this
    exact (List.getElem?_eq_some_iff.mp this).1
theorem lim_len_le {W : Nat} (hW : 0 < W) {k v : Nat} (h : v < 2 ^ (W * k)) : (lim W v).length ≤ k := by
  refine Nat.le_of_not_lt fun q => ?_
  have := (lim_len_iff hW k v).mp q
  exact this (Nat.div_eq_of_lt h)
theorem lim_len_small {W v k : Nat} (hW : 0 < W) (h : v < 2 ^ k) : (lim W v).length ≤ k :=
  lim_len_le hW (Nat.lt_of_lt_of_le h (Nat.pow_le_pow_right (by decide) (Nat.le_mul_of_pos_left k hW)))
theorem lim_ne_nil {W v : Nat} (hW : 0 < W) (hv : 0 < v) : lim W v ≠ [] := by rw [lim_pos hW hv]; simp
/-- bits -/
theorem lor_shift {x y : Int} (k : Nat) (hx : 0 ≤ x) (hy : 0 ≤ y) (hy2 : y < 2 ^ k) : Builtin.bitOr (x * 2 ^ k) y = x * 2 ^ k + y := by
  obtain ⟨a, rfl⟩ := Int.eq_ofNat_of_zero_le hx
  obtain ⟨b, rfl⟩ := Int.eq_ofNat_of_zero_le hy
  have hb : b < 2 ^ k := by exact_mod_cast hy2
  have e : ∀ m n : Nat, Builtin.bitOr (m : Int) (n : Int) = ((m ||| n : Nat) : Int) := by
    intro m n
    unfold Builtin.bitOr Builtin.bitAnd Builtin.bitNot
    have h1 : decide (0 ≤ -(m : Int) - 1) = false := by simp; lia
    have h2 : decide (0 ≤ -(n : Int) - 1) = false := by simp; lia
    rw [h1, h2]
    simp only
    have e1 : (-(-(m : Int) - 1) - 1).toNat = m := by lia
    have e2 : (-(-(n : Int) - 1) - 1).toNat = n := by lia
    rw [e1, e2]; lia
  have c : ((a : Int) * 2 ^ k) = ((a * 2 ^ k : Nat) : Int) := by simp
  show Builtin.bitOr ((a : Int) * 2 ^ k) (b : Int) = (a : Int) * 2 ^ k + (b : Int)
  rw [c, e]
  have := Nat.shiftLeft_add_eq_or_of_lt hb a
  rw [Nat.shiftLeft_eq] at this
  rw [← this]; simp

theorem fdivN (n k : Nat) : (n : Int).fdiv (k : Int) = ((n / k : Nat) : Int) := by
  rw [Int.fdiv_eq_ediv_of_nonneg _ (Int.natCast_nonneg k)]; simp
theorem fmodN (n k : Nat) : (n : Int).fmod (k : Int) = ((n % k : Nat) : Int) := by
  rw [Int.fmod_eq_emod_of_nonneg _ (Int.natCast_nonneg k)]; simp
theorem fdivP (x : Int) (k : Nat) : x.fdiv (2 ^ k) = x / 2 ^ k := Int.fdiv_eq_ediv_of_nonneg _ (Int.le_of_lt (pw_pos k))
theorem and_one (x : Int) : Builtin.bitAnd x 1 = x % 2 := by
  have := PySem.W.kbt_mask x 1
  simpa using this
theorem and_mask (x : Int) (k : Nat) : Builtin.bitAnd x (2 ^ k - 1) = x % 2 ^ k := PySem.W.kbt_mask x k
theorem bit_of {e n W : Nat} (hW : 0 < W) : (e / 2 ^ (W * (n / W)) % 2 ^ W) / 2 ^ (n % W) % 2 = e / 2 ^ n % 2 := by
  have hr := Nat.mod_lt n hW
  have e1 : 2 ^ W = 2 ^ (n % W) * 2 ^ (W - n % W) := by rw [← Nat.pow_add]; congr 1; lia
  rw [e1, Nat.mod_mul_right_div_self, Nat.div_div_eq_div_mul, ← Nat.pow_add, Nat.div_add_mod]
  exact Nat.mod_mod_of_dvd _ ⟨2 ^ (W - n % W - 1), by rw [← Nat.pow_succ']; congr 1; lia⟩
theorem bit_zero {e n W : Nat} (h : e / 2 ^ (W * (n / W)) = 0) (hW : 0 < W) : e / 2 ^ n % 2 = 0 := by
  rw [← bit_of hW, h]; simp
theorem bit_val {e n W : Nat} (hW : 0 < W) : Builtin.bitAnd ((((e / 2 ^ (W * (n / W)) % 2 ^ W : Nat) : Int)).fdiv (2 ^ (((n % W : Nat) : Int)).toNat)) 1 = ((e / 2 ^ n % 2 : Nat) : Int) := by
  rw [and_one, Int.toNat_natCast, ← cast_pw, fdivN, ← bit_of hW]; rfl

theorem rs_up {a b : Int} (h : a ≤ b) : Builtin.Range.rangeSize a b 1 = b - a := by
  rw [PySem.rangeSize_one]; split <;> lia
theorem sm_up {a b : Int} (ha : -1000000 ≤ a) (ha' : a ≤ 1000000) (hb : -1000000 ≤ b) (hb' : b ≤ 1000000) : Builtin.Range.small a b 1 = true := PySem.small_one (by lia) (by lia) (by lia) (by lia)
theorem rs_down {a b : Int} (h : b ≤ a) : Builtin.Range.rangeSize a b (-1) = a - b := by
  unfold Builtin.Range.rangeSize
  simp
  lia
theorem sm_down {a b : Int} (hab : b ≤ a) (ha : -1000000 ≤ a) (ha' : a ≤ 1000000) (hb : -1000000 ≤ b) (hb' : b ≤ 1000000) : Builtin.Range.small a b (-1) = true := by
  unfold Builtin.Range.small
  rw [rs_down hab]
  simp only [Builtin.Range.rangeFitsLong, Bool.and_eq_true, Bool.or_eq_true, decide_eq_true_eq, beq_iff_eq]
  simp
  lia

theorem val_split (B : Int) (ns : List Int) {k : Nat} {x : Int} (h : ns[k]? = some x) : val B ns = val B (ns.take k) + B ^ k * (x + B * val B (ns.drop (k + 1))) := by
  have hk : k < ns.length := (List.getElem?_eq_some_iff.mp h).1
  have e : ns = ns.take k ++ x :: ns.drop (k + 1) := by
    have := (List.getElem?_eq_some_iff.mp h).2
    rw [← this, List.getElem_cons_drop, List.take_append_drop]
  have e2 : val B ns = val B (ns.take k ++ x :: ns.drop (k + 1)) := congrArg (val B) e
  rw [e2, val_append, val_cons, List.length_take, Nat.min_eq_left (Nat.le_of_lt hk)]
theorem val_drop (B : Int) (ns : List Int) {k : Nat} {x : Int} (h : ns[k]? = some x) : val B (ns.drop k) = x + B * val B (ns.drop (k + 1)) := by
  have hk : k < ns.length := (List.getElem?_eq_some_iff.mp h).1
  have := (List.getElem?_eq_some_iff.mp h).2
  rw [← this, ← List.getElem_cons_drop (h := hk), val_cons]
theorem cmp_dig {B : Int} (hB : 0 < B) {as bs : List Int} (ha : Lim B as) (hb : Lim B bs) {k : Nat} {x y : Int} (hx : as[k]? = some x) (hy : bs[k]? = some y) (hd : as.drop (k + 1) = bs.drop (k + 1)) (h : x < y) : val B as < val B bs := by
  rw [val_split B as hx, val_split B bs hy, hd]
  have h1 := val_range hB (ha.take k)
  have h2 := val_range hB (hb.take k)
  have la : (as.take k).length = k := by rw [List.length_take]; exact Nat.min_eq_left (Nat.le_of_lt (List.getElem?_eq_some_iff.mp hx).1)
  rw [la] at h1
  generalize val B (bs.drop (k + 1)) = V at *
  have hp : 0 ≤ B ^ k := Int.le_of_lt (Int.pow_pos hB)
  have e : B ^ k * (x + 1 + B * V) ≤ B ^ k * (y + B * V) := Int.mul_le_mul_of_nonneg_left (by lia) hp
  have e2 : B ^ k * (x + 1 + B * V) = B ^ k * (x + B * V) + B ^ k := by grind
  lia
theorem nm_lower {B : Int} (hB : 0 < B) {bs : List Int} (hb : Lim B bs) (hn : Nm bs) (hne : bs ≠ []) : B ^ (bs.length - 1) ≤ val B bs := by
  have e := List.dropLast_concat_getLast hne
  have hl : bs.getLast? = some (bs.getLast hne) := List.getLast?_eq_some_getLast hne
  have h0 := hn _ hl
  have h1 := hb _ (List.getLast_mem hne)
  rw [← e, val_snoc, List.length_append, List.length_singleton, Nat.add_sub_cancel]
  have h2 := val_range hB (ns := bs.dropLast) fun y hy => hb y (List.dropLast_subset _ hy)
  have h3 : B ^ bs.dropLast.length * 1 ≤ B ^ bs.dropLast.length * bs.getLast hne := Int.mul_le_mul_of_nonneg_left (by lia) (Int.le_of_lt (Int.pow_pos hB))
  lia
theorem pow_mono {B : Int} (hB : 1 ≤ B) {m n : Nat} (h : m ≤ n) : B ^ m ≤ B ^ n := by
  obtain ⟨k, rfl⟩ := Nat.exists_eq_add_of_le h
  rw [Int.pow_add]
  have h1 : 0 < B ^ m := Int.pow_pos (by lia)
  have h2 : 0 < B ^ k := Int.pow_pos (by lia)
  have : B ^ m * 1 ≤ B ^ m * B ^ k := Int.mul_le_mul_of_nonneg_left (by lia) (by lia)
  lia
theorem cmp_len {B : Int} (hB : 1 ≤ B) {as bs : List Int} (ha : Lim B as) (hb : Lim B bs) (hn : Nm bs) (h : as.length < bs.length) : val B as < val B bs := by
  have h1 := (val_range (by lia) ha).2
  have h2 := nm_lower (by lia) hb hn (by intro e; rw [e] at h; simp at h)
  have h3 := pow_mono hB (show as.length ≤ bs.length - 1 by lia)
  lia
theorem drop_cons {ns : List Int} {k : Nat} {x : Int} (h : ns[k]? = some x) : ns.drop k = x :: ns.drop (k + 1) := by
  have hk : k < ns.length := (List.getElem?_eq_some_iff.mp h).1
  have := (List.getElem?_eq_some_iff.mp h).2
  rw [← this, ← List.getElem_cons_drop (h := hk)]
theorem B128 {W : Nat} (h : W ≤ 7) : (2 : Int) ^ W ≤ 128 := by
  have : ∀ k : Nat, k ≤ 7 → (2 : Int) ^ k ≤ 128 := by decide
  exact this W h
theorem mod_step {V d B x : Int} : (V % d * B + x) % d = (x + B * V) % d := by
  have e : V % d * B + x = (x + B * V) + d * (-(V / d) * B) := by
    have := Int.emod_add_mul_ediv V d
    grind
  rw [e, Int.add_mul_emod_self_left]
theorem fmodP {x d : Int} (h : 0 < d) : x.fmod d = x % d := Int.fmod_eq_emod_of_nonneg _ (Int.le_of_lt h)
theorem fdivQ {x d : Int} (h : 0 < d) : x.fdiv d = x / d := Int.fdiv_eq_ediv_of_nonneg _ (Int.le_of_lt h)
theorem lor_comm (x y : Int) : Builtin.bitOr x y = Builtin.bitOr y x := by
  unfold Builtin.bitOr; rw [PyProof.Rows.bitAnd_comm]
theorem lor_shift' {x y : Int} (k : Nat) (hx : 0 ≤ x) (hy : 0 ≤ y) (hy2 : y < 2 ^ k) : Builtin.bitOr y (x * 2 ^ k) = y + x * 2 ^ k := by
  rw [lor_comm, lor_shift k hx hy hy2, Int.add_comm]
theorem val_take_succ (B : Int) (ns : List Int) {k : Nat} {x : Int} (h : ns[k]? = some x) : val B (ns.take (k + 1)) = val B (ns.take k) + B ^ k * x := by
  have hk : k < ns.length := (List.getElem?_eq_some_iff.mp h).1
  rw [List.take_add_one, h, Option.toList_some, val_snoc, List.length_take, Nat.min_eq_left (Nat.le_of_lt hk)]
theorem ediv_lt_of {c B k : Int} (hB : 0 < B) (h : c < B * k) : c / B < k := Int.ediv_lt_of_lt_mul hB (by rw [Int.mul_comm]; exact h)
theorem shl_step {v vt c x P n2 B : Int} (h : v + P * c = vt * n2) : v + P * ((c + x * n2) % B) + P * B * ((c + x * n2) / B) = (vt + P * x) * n2 := by
  have := Int.emod_add_mul_ediv (c + x * n2) B
  grind
theorem shl_bound {c x n2 B : Int} (hn : 0 < n2) (hc : c < n2) (hx : x < B) : c + x * n2 < B * n2 := by
  have : (x + 1) * n2 ≤ B * n2 := Int.mul_le_mul_of_nonneg_right (by lia) (by lia)
  have e : (x + 1) * n2 = x * n2 + n2 := by grind
  lia
/-- a limb of the shift to the right -/
theorem shr_limb {W n : Nat} {x y : Int} (hn : n ≤ W) (hx0 : 0 ≤ x) (hx : x < 2 ^ W) (hy : 0 ≤ y) :
    Builtin.bitAnd (Builtin.bitOr (x.fdiv (2 ^ n)) (y * 2 ^ (W - n))) (2 ^ W - 1) = x / 2 ^ n + y % 2 ^ n * 2 ^ (W - n) ∧ x / 2 ^ n + y % 2 ^ n * 2 ^ (W - n) < 2 ^ W ∧ 0 ≤ x / 2 ^ n + y % 2 ^ n * 2 ^ (W - n) := by
  have e : (2 : Int) ^ W = 2 ^ n * 2 ^ (W - n) := by rw [← Int.pow_add]; congr 1; lia
  have p1 := pw_pos n
  have p2 := pw_pos (W - n)
  have q0 : 0 ≤ x / 2 ^ n := Int.ediv_nonneg hx0 (by lia)
  have q1 : x / 2 ^ n < 2 ^ (W - n) := ediv_lt_of p1 (by rw [← e]; exact hx)
  have r0 := Int.emod_nonneg y (show (2 : Int) ^ n ≠ 0 by lia)
  have r1 := Int.emod_lt_of_pos y p1
  rw [fdivP, lor_shift' _ hy q0 q1, and_mask]
  generalize x / 2 ^ n = q at *
  have b1 : (y % 2 ^ n + 1) * 2 ^ (W - n) ≤ 2 ^ n * 2 ^ (W - n) := Int.mul_le_mul_of_nonneg_right (by lia) (by lia)
  have b2 : (y % 2 ^ n + 1) * 2 ^ (W - n) = y % 2 ^ n * 2 ^ (W - n) + 2 ^ (W - n) := by grind
  have b3 : 0 ≤ y % 2 ^ n * 2 ^ (W - n) := Int.mul_nonneg r0 (by lia)
  have b4 : q + y % 2 ^ n * 2 ^ (W - n) < 2 ^ W := by rw [e]; lia
  refine ⟨?_, b4, by lia⟩
  have f : q + y * 2 ^ (W - n) = (q + y % 2 ^ n * 2 ^ (W - n)) + 2 ^ W * (y / 2 ^ n) := by
    have := Int.emod_add_mul_ediv y (2 ^ n)
    rw [e]; grind
  rw [f, Int.add_mul_emod_self_left, Int.emod_eq_of_lt (by lia) b4]
/-- the limb at a place, or nought -/
def gd (ns : List Int) (i : Nat) : Int := (ns[i]?).getD 0
theorem shr_step {W n : Nat} (hn : n ≤ W) {vf vt l0 li x y P : Int} (h : 2 ^ n * vf + l0 = vt + li * P) (hl : li = x % 2 ^ n) : 2 ^ n * (vf + P * (x / 2 ^ n + y % 2 ^ n * 2 ^ (W - n))) + l0 = vt + P * x + y % 2 ^ n * (P * 2 ^ W) := by
  have e : (2 : Int) ^ W = 2 ^ n * 2 ^ (W - n) := by rw [← Int.pow_add]; congr 1; lia
  have := Int.emod_add_mul_ediv x (2 ^ n)
  rw [e]; subst hl; grind
theorem val_ge_get {B : Int} (hB : 0 < B) {fs : List Int} (h : Lim B fs) {k : Nat} {x : Int} (e : fs[k]? = some x) : x * B ^ k ≤ val B fs := by
  have h1 := (val_range hB (h.take k)).1
  have h2 := (val_range hB (h.drop (k + 1))).1
  rw [val_split B fs e]
  have h3 : 0 ≤ B ^ k * (B * val B (fs.drop (k + 1))) := Int.mul_nonneg (Int.le_of_lt (Int.pow_pos hB)) (Int.mul_nonneg (Int.le_of_lt hB) h2)
  have e2 : B ^ k * (x + B * val B (fs.drop (k + 1))) = x * B ^ k + B ^ k * (B * val B (fs.drop (k + 1))) := by grind
  lia
theorem top_zero {B : Int} (hB : 0 < B) {fs : List Int} (h : Lim B fs) {k : Nat} {x : Int} (e : fs[k]? = some x) (hv : val B fs < B ^ k) : x = 0 := by
  have h1 := val_ge_get hB h e
  have h2 := (h.get e).1
  have h3 : 0 < B ^ k := Int.pow_pos hB
  rcases Int.lt_or_eq_of_le h2 with q | q
  · exfalso
    have : 1 * B ^ k ≤ x * B ^ k := Int.mul_le_mul_of_nonneg_right (by lia) (by lia)
    lia
  · lia
theorem mul_bound {B c o x y : Int} (hB : 0 < B) (c1 : c < B) (o1 : o < B) (x0 : 0 ≤ x) (x1 : x < B) (y0 : 0 ≤ y) (y1 : y < B) : c + (o + x * y) < B * B := by
  have h1 : x * y ≤ (B - 1) * (B - 1) := by
    have a : x * y ≤ (B - 1) * y := Int.mul_le_mul_of_nonneg_right (by lia) y0
    have b : (B - 1) * y ≤ (B - 1) * (B - 1) := Int.mul_le_mul_of_nonneg_left (by lia) (by lia)
    lia
  have e : (B - 1) * (B - 1) = B * B - 2 * B + 1 := by grind
  lia
theorem mul_step {vf vt vb c o x y P Pi Pj B : Int} (hP : P = Pi * Pj) (h : vf + c * P = vt + x * vb * Pi) :
    vf + ((c + (o + x * y)) % B - o) * P + (c + (o + x * y)) / B * (P * B) = vt + x * (vb + Pj * y) * Pi := by
  have := Int.emod_add_mul_ediv (c + (o + x * y)) B
  subst hP; grind
theorem prod_bound {B : Int} (hB : 0 < B) {i k : Nat} {x y : Int} (x0 : 0 ≤ x) (x1 : x < B ^ i) (y0 : 0 ≤ y) (y1 : y < B ^ k) : x * y < B ^ (i + k) := by
  rw [Int.pow_add]
  have p1 : 0 < B ^ i := Int.pow_pos hB
  have p2 : 0 < B ^ k := Int.pow_pos hB
  have a : x * y ≤ x * (B ^ k - 1) := Int.mul_le_mul_of_nonneg_left (by lia) x0
  have b : x * (B ^ k - 1) ≤ (B ^ i - 1) * (B ^ k - 1) := Int.mul_le_mul_of_nonneg_right (by lia) (by lia)
  have e : (B ^ i - 1) * (B ^ k - 1) = B ^ i * B ^ k - B ^ i - B ^ k + 1 := by grind
  lia
end Mine
end
section
open PySem
namespace Mine
/-- three limbs by two: what the loop keeps and what it ends with -/
def G3 (B v1 v2 hi t0 q : Int) : Prop := (q + 1) * (v1 * B + v2) > hi * B + t0 ∨ q = B - 1
theorem g3_start {B v1 v2 hi t0 : Int} (hB : 1 < B) (hv1 : 0 < v1) (hv2 : 0 ≤ v2) (hh : 0 ≤ hi) (ht : t0 < B) {q : Int} (hq : q = if B - 1 < hi / v1 then B - 1 else hi / v1) :
    G3 B v1 v2 hi t0 q ∧ 0 ≤ q ∧ q < B ∧ 0 ≤ hi - q * v1 := by
  have d0 : 0 ≤ hi / v1 := Int.ediv_nonneg hh (by lia)
  have d1 := Int.emod_add_mul_ediv hi v1
  have d2 := Int.emod_nonneg hi (show v1 ≠ 0 by lia)
  have d3 := Int.emod_lt_of_pos hi hv1
  by_cases c : B - 1 < hi / v1
  · rw [if_pos c] at hq
    subst hq
    refine ⟨.inr rfl, by lia, by lia, ?_⟩
    have : (B - 1) * v1 ≤ hi / v1 * v1 := Int.mul_le_mul_of_nonneg_right (by lia) (by lia)
    have e : v1 * (hi / v1) = hi / v1 * v1 := Int.mul_comm _ _
    lia
  · rw [if_neg c] at hq
    subst hq
    have e : v1 * (hi / v1) = hi / v1 * v1 := Int.mul_comm _ _
    refine ⟨.inl ?_, d0, by lia, by lia⟩
    have a1 : hi + 1 ≤ (hi / v1 + 1) * v1 := by rw [Int.add_mul]; lia
    have a2 : (hi + 1) * B ≤ (hi / v1 + 1) * v1 * B := Int.mul_le_mul_of_nonneg_right a1 (by lia)
    have a3 : 0 ≤ (hi / v1 + 1) * v2 := Int.mul_nonneg (by lia) hv2
    have e2 : (hi / v1 + 1) * (v1 * B + v2) = (hi / v1 + 1) * v1 * B + (hi / v1 + 1) * v2 := by grind
    have e3 : (hi + 1) * B = hi * B + B := by grind
    lia
theorem g3_turn {B v1 v2 hi t0 q : Int} (hv2 : 0 ≤ v2) (hq0 : 0 ≤ q) (hr : 0 ≤ hi - q * v1) (hB : 0 < B) (ht : 0 ≤ t0) (hv1 : 0 < v1) (h : q * v2 > (hi - q * v1) * B + t0) :
    G3 B v1 v2 hi t0 (q - 1) ∧ 0 ≤ q - 1 ∧ hi - q * v1 + v1 = hi - (q - 1) * v1 ∧ 0 ≤ hi - (q - 1) * v1 := by
  have e : hi - q * v1 + v1 = hi - (q - 1) * v1 := by grind
  have q1 : 0 < q := by
    rcases Int.lt_or_eq_of_le hq0 with c | c
    · exact c
    · exfalso
      subst c
      have : 0 ≤ (hi - 0 * v1) * B := Int.mul_nonneg (by lia) (by lia)
      lia
  refine ⟨.inl ?_, by lia, e, by lia⟩
  have e2 : (q - 1 + 1) * (v1 * B + v2) = q * v1 * B + q * v2 := by grind
  have e3 : (hi - q * v1) * B = hi * B - q * v1 * B := by grind
  lia
theorem g3_end {B v1 v2 hi t0 q : Int} (hB : 0 < B) (hv2 : 0 ≤ v2) (hv2' : v2 < B) (_hq0 : 0 ≤ q) (hq : q < B) (ht : 0 ≤ t0) (h : B ≤ hi - q * v1 ∨ q * v2 ≤ (hi - q * v1) * B + t0) : q * (v1 * B + v2) ≤ hi * B + t0 := by
  have e2 : q * (v1 * B + v2) = q * v1 * B + q * v2 := by grind
  have e3 : (hi - q * v1) * B = hi * B - q * v1 * B := by grind
  rcases h with h | h
  · have a1 : B * B ≤ (hi - q * v1) * B := Int.mul_le_mul_of_nonneg_right h (by lia)
    have a2 : q * v2 ≤ B * v2 := Int.mul_le_mul_of_nonneg_right (by lia) hv2
    have a3 : B * v2 ≤ B * B := Int.mul_le_mul_of_nonneg_left (by lia) (by lia)
    lia
  · lia
theorem knuth {B P v1 v2 V' hi t0 U' U V q : Int} (hB : 0 < B) (hP : 0 < P) (hv1 : 1 ≤ v1) (hv2 : 0 ≤ v2) (hV0 : 0 ≤ V') (hV1 : V' < P) (hU0 : 0 ≤ U') (hU1 : U' < P)
    (eV : V = (v1 * B + v2) * P + V') (eU : U = (hi * B + t0) * P + U') (hUV : U < B * V) (q0 : 0 ≤ q) (qB : q < B) (g : G3 B v1 v2 hi t0 q) (e : q * (v1 * B + v2) ≤ hi * B + t0) : -V ≤ U - q * V ∧ U - q * V < V := by
  constructor
  · have a1 : q * (v1 * B + v2) * P ≤ (hi * B + t0) * P := Int.mul_le_mul_of_nonneg_right e (by lia)
    have a2 : q * V' ≤ B * V' := Int.mul_le_mul_of_nonneg_right (by lia) hV0
    have a3 : B * V' ≤ B * P := Int.mul_le_mul_of_nonneg_left (by lia) (by lia)
    have a4 : 1 * (B * P) ≤ v1 * (B * P) := Int.mul_le_mul_of_nonneg_right (by lia) (Int.mul_nonneg (by lia) (by lia))
    have a5 : 0 ≤ v2 * P := Int.mul_nonneg hv2 (by lia)
    have e1 : q * V = q * (v1 * B + v2) * P + q * V' := by rw [eV]; grind
    have e2 : V = v1 * (B * P) + v2 * P + V' := by rw [eV]; grind
    lia
  · rcases g with g | g
    · have a1 : (hi * B + t0 + 1) * P ≤ (q + 1) * (v1 * B + v2) * P := Int.mul_le_mul_of_nonneg_right (by lia) (by lia)
      have a2 : 0 ≤ (q + 1) * V' := Int.mul_nonneg (by lia) hV0
      have e1 : (q + 1) * V = (q + 1) * (v1 * B + v2) * P + (q + 1) * V' := by rw [eV]; grind
      have e2 : (hi * B + t0 + 1) * P = (hi * B + t0) * P + P := by grind
      have e3 : (q + 1) * V = q * V + V := by grind
      lia
    · have e3 : B * V = q * V + V := by rw [g]; grind
      lia
/-- take away: a turn -/
theorem tk_turn {vw vw0 lb y c o B Pj limb : Int} (h : vw = vw0 - limb * lb + c * Pj) :
    let T := limb * y + c
    let here := o - T % B
    vw + ((if here < 0 then here + B else here) - o) * Pj = vw0 - limb * (lb + Pj * y) + (T / B + (if here < 0 then 1 else 0)) * (Pj * B) := by
  intro T here
  have e := Int.emod_add_mul_ediv T B
  have eT : T = limb * y + c := rfl
  have eh : here = o - T % B := rfl
  clear_value T here
  by_cases q : here < 0
  · rw [if_pos q, if_pos q]; grind
  · rw [if_neg q, if_neg q]; grind
theorem tk_rng {y c o B limb : Int} (hB : 1 < B) (l0 : 0 ≤ limb) (l1 : limb < B) (y0 : 0 ≤ y) (y1 : y < B) (c0 : 0 ≤ c) (c1 : c ≤ B) (o0 : 0 ≤ o) (o1 : o < B) :
    let T := limb * y + c
    let here := o - T % B
    0 ≤ (if here < 0 then here + B else here) ∧ (if here < 0 then here + B else here) < B ∧ 0 ≤ T / B + (if here < 0 then 1 else 0) ∧ T / B + (if here < 0 then 1 else 0) ≤ B ∧ 0 ≤ T := by
  intro T here
  have t0 : 0 ≤ limb * y := Int.mul_nonneg l0 y0
  have t1 : limb * y ≤ (B - 1) * y := Int.mul_le_mul_of_nonneg_right (by lia) y0
  have t2 : (B - 1) * y ≤ (B - 1) * (B - 1) := Int.mul_le_mul_of_nonneg_left (by lia) (by lia)
  have t3 : (B - 1) * (B - 1) = B * B - 2 * B + 1 := by grind
  have eT : T = limb * y + c := rfl
  have eh : here = o - T % B := rfl
  have r0 := Int.emod_nonneg T (show B ≠ 0 by lia)
  have r1 := Int.emod_lt_of_pos T (show 0 < B by lia)
  have d0 : 0 ≤ T / B := Int.ediv_nonneg (by lia) (by lia)
  have d1 : T / B < B := ediv_lt_of (by lia) (by lia)
  clear_value T here
  by_cases q : here < 0
  · rw [if_pos q, if_pos q]; lia
  · rw [if_neg q, if_neg q]; lia
theorem pb_turn {vw vw0 lb y c o B Pj : Int} (h : vw = vw0 + lb - c * Pj) : vw + ((c + (o + y)) % B - o) * Pj = vw0 + (lb + Pj * y) - (c + (o + y)) / B * (Pj * B) := by
  have e := Int.emod_add_mul_ediv (c + (o + y)) B
  grind
end Mine
end
section
open PySem
namespace Mine
theorem two_top {B : Int} {bs : List Int} {n : Nat} (hn : bs.length = n + 2) {v1 v2 : Int} (h1 : bs[n + 1]? = some v1) (h2 : bs[n]? = some v2) : val B bs = (v1 * B + v2) * B ^ n + val B (bs.take n) := by
  rw [val_split B bs h2, drop_cons h1, List.drop_of_length_le (by lia), val_cons, val_nil]
  grind
theorem three_top {B : Int} {ws : List Int} {n : Nat} (hn : ws.length = n + 3) {t0 t1 t2 : Int} (h0 : ws[n]? = some t0) (h1 : ws[n + 1]? = some t1) (h2 : ws[n + 2]? = some t2) : val B ws = ((t2 * B + t1) * B + t0) * B ^ n + val B (ws.take n) := by
  rw [val_split B ws h0, drop_cons h1, drop_cons h2, List.drop_of_length_le (by lia), val_cons, val_cons, val_nil]
  grind
theorem take3 {rs : List Int} {k : Nat} {t0 t1 t2 : Int} (h0 : rs[k]? = some t0) (h1 : rs[k + 1]? = some t1) (h2 : rs[k + 2]? = some t2) : (rs.drop k).take 3 = [t0, t1, t2] := by
  rw [drop_cons h0, drop_cons h1, drop_cons h2]; rfl
theorem top_pos {B P v1 v2 V' V : Int} (_hB : 0 < B) (hP : 0 < P) (hv1 : 0 ≤ v1) (hv2 : v2 < B) (hV : V' < P) (e : V = (v1 * B + v2) * P + V') (h : B * P ≤ V) : 1 ≤ v1 := by
  rcases Int.lt_or_eq_of_le hv1 with c | c
  · lia
  · exfalso
    subst c
    have a : v2 * P ≤ (B - 1) * P := Int.mul_le_mul_of_nonneg_right (by lia) (by lia)
    have e1 : (0 * B + v2) * P = v2 * P := by grind
    have e2 : (B - 1) * P = B * P - P := by grind
    lia
theorem post_zero {B V x hi vw vp : Int} {n : Nat} (hB : 0 < B) (hx : x < B) (hV : V < B ^ n) (h : hi < V) (e : x + B * hi = vw + B ^ (n + 1) * vp) (hw : 0 ≤ vw) (hp : 0 ≤ vp) : vp = 0 ∧ vw = x + B * hi ∧ vw < B * V := by
  have a1 : B * (hi + 1) ≤ B * V := Int.mul_le_mul_of_nonneg_left (by lia) (by lia)
  have a2 : B * V ≤ B * B ^ n := Int.mul_le_mul_of_nonneg_left (by lia) (by lia)
  have e1 : B * (hi + 1) = B * hi + B := by grind
  have e2 : B * B ^ n = B ^ (n + 1) := by rw [Int.pow_succ]; exact Int.mul_comm _ _
  rcases Int.lt_or_eq_of_le hp with c | c
  · exfalso
    have p : 0 < B ^ (n + 1) := Int.pow_pos hB
    have a3 : B ^ (n + 1) * 1 ≤ B ^ (n + 1) * vp := Int.mul_le_mul_of_nonneg_left (by lia) (by lia)
    lia
  · subst c
    have : B ^ (n + 1) * 0 = 0 := by simp
    lia
open PySem.Builtin.Int in
theorem bits_of {x : Int} {W : Nat} (h0 : 1 ≤ x) (h1 : x < 2 ^ W) : ∃ k : Nat, intBits x = k ∧ 1 ≤ k ∧ k ≤ W ∧ x < 2 ^ k := by
  refine ⟨intBits x, rfl, ?_, ?_, ?_⟩
  · unfold intBits
    have : (x == 0) = false := by simp; lia
    rw [this]; simp
  · refine PySem.intBits_le_iff.mpr ?_
    have : (x.natAbs : Int) < ((2 ^ W : Nat) : Int) := by rw [cast_pw]; lia
    exact_mod_cast this
  · have := PySem.intBits_le_iff.mp (Nat.le_refl (intBits x))
    have e : (x.natAbs : Int) < ((2 ^ intBits x : Nat) : Int) := by exact_mod_cast this
    rw [cast_pw] at e
    lia
theorem last_bound {W k : Nat} {bs : List Int} {x : Int} (hb : Lim (2 ^ W) bs) (hl : bs.getLast? = some x) (hk : k ≤ W) (hx : x < 2 ^ k) : val (2 ^ W) bs * 2 ^ (W - k) < (2 ^ W) ^ bs.length := by
  have hne : bs ≠ [] := by intro e; rw [e] at hl; cases hl
  have e := List.dropLast_concat_getLast hne
  have hx2 : bs.getLast hne = x := by have := List.getLast?_eq_some_getLast hne; rw [hl] at this; exact (Option.some.inj this).symm
  rw [hx2] at e
  rw [← e, val_snoc, List.length_append, List.length_singleton, Int.pow_succ]
  have h2 := (val_range (pw_pos W) (ns := bs.dropLast) fun y hy => hb y (List.dropLast_subset _ hy)).2
  generalize ((2 : Int) ^ W) ^ bs.dropLast.length = P at *
  have e1 : (2 : Int) ^ W = 2 ^ k * 2 ^ (W - k) := by rw [← Int.pow_add]; congr 1; lia
  have p2 := pw_pos (W - k)
  have p0 : 0 ≤ P := by
    have := (val_range (pw_pos W) (ns := bs.dropLast) fun y hy => hb y (List.dropLast_subset _ hy)).1
    lia
  have a1 : P * x + P ≤ P * 2 ^ k := by
    have : P * (x + 1) ≤ P * 2 ^ k := Int.mul_le_mul_of_nonneg_left (by lia) p0
    rw [Int.mul_add, Int.mul_one] at this; exact this
  have a2 : (val (2 ^ W) bs.dropLast + P * x + 1) * 2 ^ (W - k) ≤ P * 2 ^ k * 2 ^ (W - k) := Int.mul_le_mul_of_nonneg_right (by lia) (by lia)
  have e2 : (val (2 ^ W) bs.dropLast + P * x + 1) * 2 ^ (W - k) = (val (2 ^ W) bs.dropLast + P * x) * 2 ^ (W - k) + 2 ^ (W - k) := by grind
  have e3 : P * 2 ^ k * 2 ^ (W - k) = P * 2 ^ W := by rw [e1]; grind
  lia
theorem drop_bound {B s2 : Int} (hB : 0 < B) (_hs : 0 < s2) {rs : List Int} {N n la : Nat} (hr : Lim B rs) (hl : rs.length = N + n) (hla : la + 1 = N + n) (hn : 1 ≤ n) {u : Int} (hu : u < B ^ la) (e : val B rs = u * s2) : val B (rs.drop N) < B ^ (n - 1) * s2 := by
  have h1 : val B rs = val B (rs.take N) + B ^ N * val B (rs.drop N) := by
    have := val_append B (rs.take N) (rs.drop N)
    rw [List.take_append_drop, List.length_take, Nat.min_eq_left (by lia)] at this
    exact this
  have h2 := (val_range hB (hr.take N)).1
  have pN : 0 < B ^ N := Int.pow_pos hB
  have a1 : (u + 1) * s2 ≤ B ^ la * s2 := Int.mul_le_mul_of_nonneg_right (by lia) (by lia)
  have e1 : (u + 1) * s2 = u * s2 + s2 := by grind
  have e2 : B ^ la * s2 = B ^ N * (B ^ (n - 1) * s2) := by
    have : la = N + (n - 1) := by lia
    rw [this, Int.pow_add]; grind
  have a2 : B ^ N * val B (rs.drop N) < B ^ N * (B ^ (n - 1) * s2) := by lia
  exact Int.lt_of_mul_lt_mul_left a2 (by lia)
theorem len_mono {B : Int} (hB : 1 ≤ B) {as bs : List Int} (ha : Lim B as) (hb : Lim B bs) (nb : Nm bs) (h : ¬ val B as < val B bs) : bs.length ≤ as.length := by
  refine Nat.le_of_not_lt fun q => h (cmp_len hB ha hb nb q)
end Mine
end
section
open PySem
namespace Mine
theorem half_step (E n : Nat) : E / 2 ^ n = 2 * (E / 2 ^ (n + 1)) + E / 2 ^ n % 2 := by
  have : E / 2 ^ (n + 1) = E / 2 ^ n / 2 := by rw [Nat.div_div_eq_div_mul, Nat.pow_succ]
  rw [this]; lia
theorem win_step (E l k : Nat) : E / 2 ^ l = E / 2 ^ (l + k) * 2 ^ k + E / 2 ^ l % 2 ^ k := by
  have : E / 2 ^ (l + k) = E / 2 ^ l / 2 ^ k := by rw [Nat.div_div_eq_div_mul, ← Nat.pow_add]
  rw [this, Nat.mul_comm]; exact (Nat.div_add_mod _ _).symm
theorem win_odd {E l k : Nat} (hk : 1 ≤ k) (h : E / 2 ^ l % 2 = 1) : E / 2 ^ l % 2 ^ k % 2 = 1 := by
  rw [Nat.mod_mod_of_dvd _ ⟨2 ^ (k - 1), by rw [← Nat.pow_succ']; congr 1; lia⟩]; exact h
/-- the value grows by a bit -/
theorem val_bit (E t i : Nat) (hi : i ≤ t) : E / 2 ^ (t - i) % 2 ^ (i + 1) = 2 * (E / 2 ^ (t + 1 - i) % 2 ^ i) + E / 2 ^ (t - i) % 2 := by
  have h := half_step E (t - i)
  have e : t - i + 1 = t + 1 - i := by lia
  rw [e] at h
  generalize E / 2 ^ (t + 1 - i) = y at *
  generalize E / 2 ^ (t - i) = z at *
  have hb : z % 2 < 2 := Nat.mod_lt _ (by decide)
  generalize z % 2 = b at *
  subst h
  rw [Nat.pow_succ]
  have h1 := Nat.mod_add_div y (2 ^ i)
  have h2 := Nat.mod_lt y (npw_pos i)
  have h3 : 2 * y + b = (2 * (y % 2 ^ i) + b) + 2 ^ i * 2 * (y / 2 ^ i) := by grind
  rw [h3, Nat.add_mul_mod_self_left, Nat.mod_eq_of_lt (by lia)]
theorem top_bit {E n : Nat} (h0 : 2 ^ n ≤ E) (h1 : E < 2 ^ (n + 1)) : E / 2 ^ n = 1 := by
  refine Nat.div_eq_of_lt_le (by lia) ?_
  rw [Nat.pow_succ] at h1; lia
/-- how many bits -/
theorem bits_lim {W E : Nat} (hW : 0 < W) (hE : 0 < E) {x : Int} (hx : (lim W E).getLast? = some x) :
    ∃ n : Nat, (((lim W E).length : Int) - 1) * W + (Builtin.Int.intBits x : Int) = (n + 1 : Nat) ∧ 2 ^ n ≤ E ∧ E < 2 ^ (n + 1) := by
  have hne := lim_ne_nil hW hE
  have hl := Lim.lim (W := W) E
  have hxm := hl x (List.mem_of_getLast? hx)
  have hx0 := lim_nm E x hx
  have hr := val_lim hW E
  have e := List.dropLast_concat_getLast hne
  have hx2 : (lim W E).getLast hne = x := by have := List.getLast?_eq_some_getLast hne; rw [hx] at this; exact (Option.some.inj this).symm
  rw [hx2] at e
  have hlen : (lim W E).length = (lim W E).dropLast.length + 1 := by
    have := congrArg List.length e
    rw [List.length_append, List.length_singleton] at this; exact this.symm
  have hd := val_range (pw_pos W) (ns := (lim W E).dropLast) fun y hy => hl y (List.dropLast_subset _ hy)
  rw [← e, val_snoc] at hr
  obtain ⟨z, hz⟩ := Int.eq_ofNat_of_zero_le hxm.1
  have hz0 : z ≠ 0 := by intro q; rw [q] at hz; exact hx0 hz
  have hb : Builtin.Int.intBits x = z.log2 + 1 := by
    unfold Builtin.Int.intBits
    have : (x == 0) = false := by simp; lia
    rw [this, hz]; simp
  have l1 := Nat.log2_self_le hz0
  have l2 := Nat.lt_log2_self (n := z)
  generalize (lim W E).dropLast.length = d at *
  refine ⟨W * d + z.log2, ?_, ?_, ?_⟩
  · rw [hlen, hb]; push_cast; grind
  · obtain ⟨u, hu⟩ := Int.eq_ofNat_of_zero_le hd.1
    rw [hu, hz] at hr
    have e1 : u + 2 ^ (W * d) * z = E := by rw [Nat.pow_mul]; exact_mod_cast hr
    rw [Nat.pow_add, ← e1]
    have := Nat.mul_le_mul_left (2 ^ (W * d)) l1
    lia
  · obtain ⟨u, hu⟩ := Int.eq_ofNat_of_zero_le hd.1
    have hu2 : u < 2 ^ (W * d) := by
      have := hd.2
      rw [hu] at this
      rw [Nat.pow_mul]; exact_mod_cast this
    rw [hu, hz] at hr
    have e1 : u + 2 ^ (W * d) * z = E := by rw [Nat.pow_mul]; exact_mod_cast hr
    rw [Nat.add_assoc, Nat.pow_add, ← e1]
    have := Nat.mul_le_mul_left (2 ^ (W * d)) (show z + 1 ≤ 2 ^ (z.log2 + 1) from l2)
    rw [Nat.mul_add] at this
    lia
end Mine
end
open PySem PySem.W PyProof.Rows PySem.Calls
set_option maxHeartbeats 4000000
namespace Mine
-- the side facts
local macro_rules | `(tactic| l_intsC) => `(tactic| first | assumption | (apply Ne.symm; assumption) | (refine' ne_of_none ?h ?k; (case k => assumption); (case h => ke_reads)) | (refine' Ne.symm (ne_of_none ?h ?k); (case k => assumption); (case h => ke_reads)))
local macro_rules | `(tactic| ke_reads) => `(tactic| first | assumption | exact up_same _ _ _ | (refine' (up_ne ?h1).trans ?h2; (case h1 => l_intsC); (case h2 => ke_reads)) | (refine' Les.get ?h1 ?h2; (case h1 => assumption); (case h2 => ke_reads)))
local macro_rules | `(tactic| ke_read) => `(tactic| first | assumption | (simp only [iL_len, List.length_cons, List.length_nil, List.length_append, List.length_replicate, List.length_set] at *; lia) | lia | fail "side")
local macro_rules | `(tactic| law_fin) => `(tactic| first | rfl | exact Sub.get (by assumption) rfl)
local macro_rules | `(tactic| tb_start) => `(tactic| (with_reducible first | exact gnormal _ | exact gcompare _ | exact gdivrem_limb _ | exact gshift_left _ | exact gshift_right _ | exact gbits _ | exact gbit _ | exact godd_powers _ | exact gwindow_at _ | exact gby_windows _ | exact gcheck_modulus _ | exact gunit_rest _ | exact gdivided_times _ | exact gpower_mod _ | exact gmul_school _ | exact gdivrem_small _ | exact gguessed_limb _ | exact gtake_away _ | exact gput_back _ | exact gdivide_rows _ | exact gdivrem_school _ | exact glaw_sifted0 _ | exact glaw_limbs0 _ | exact glaw_chain0 _ | exact glaw_rest0 _ | exact glaw_most0 _ | fail "no def"))
local macro_rules | `(tactic| tb_rel) => `(tactic| (with_reducible first | exact nlen _ | exact nmax _ | exact nmin _ | exact nabs _ | exact nrange _ | exact nenumerate _ | exact nint _ | exact blen | exact bmax | exact bmin | exact babs | exact brange | exact benumerate | exact bint | fail "no builtin"))
-- one step
local macro_rules | `(tactic| ktr_rel) => `(tactic| first
  | ((with_reducible show EV _ _ _ _ _ _ _ _ _); first
    | ((with_reducible show EV _ _ _ _ _ _ (eval (Expr.Name _ _) _) _ _); first | refine EV_L (by law_fin) ?_ | refine EV_fn (by assumption) (by tb_start) ?_ | refine EV_bi (by assumption) (by tb_rel) (by tb_rel) (by decide) ?_ | refine EV_ty (by assumption) (by tb_rel) (by tb_rel) (by decide) ?_ | refine EV_F rfl (by ke_reads) ?_ | refine EV_C rfl (by ke_reads) ?_)
    | ((with_reducible show EV _ _ _ _ _ _ (eval (Expr.Constant (Const.int _) _ _) _) _ _); first | refine EV_int ?_)
    | ((with_reducible show EV _ _ _ _ _ _ (eval (Expr.Constant (Const.bool _) _ _) _) _ _); first | refine EV_bool ?_)
    | ((with_reducible show EV _ _ _ _ _ _ (eval (Expr.Constant Const.none _ _) _) _ _); first | refine EV_none ?_)
    | ((with_reducible show EV _ _ _ _ _ _ (eval (Expr.BinOp _ _ _ _) _) _ _); first | refine EV_BinOp ?_)
    | ((with_reducible show EV _ _ _ _ _ _ (eval (Expr.Compare _ _ _ _) _) _ _); first | refine EV_Compare ?_)
    | ((with_reducible show EV _ _ _ _ _ _ (eval (Expr.UnaryOp _ _ _) _) _ _); first | refine EV_UnaryOp ?_)
    | ((with_reducible show EV _ _ _ _ _ _ (eval (Expr.Subscript _ (Expr.Slice _ _ _ _) _) _) _ _); first | refine EV_Slice ?_)
    | ((with_reducible show EV _ _ _ _ _ _ (eval (Expr.Subscript _ _ _) _) _ _); first | refine EV_Sub ?_)
    | ((with_reducible show EV _ _ _ _ _ _ (eval (Expr.List _ _) _) _ _); first | refine EV_List ?_)
    | ((with_reducible show EV _ _ _ _ _ _ (eval (Expr.Tuple _ _ _) _) _ _); first | refine EV_Tuple ?_)
    | ((with_reducible show EV _ _ _ _ _ _ (eval (Expr.Call (Expr.Attribute _ _ _) _ _ _) _) _ _); first | refine EV_append ?_ | refine EV_bitlen ?_)
    | ((with_reducible show EV _ _ _ _ _ _ (eval (Expr.Call _ _ _ _) _) _ _); first | refine EV_Call ?_)
    | ((with_reducible show EV _ _ _ _ _ _ (loadName _ _) _ _); first | refine LN_L (by law_fin) ?_))
  | ((with_reducible show EVs _ _ _ _ _ _ (spliced (backTo _ (starEach [] _))) _ _); refine EVs_nil ?_)
  | ((with_reducible show EVs _ _ _ _ _ _ _ _ _); refine EVs_cons ?_)
  | ((with_reducible show PT _ _ _ _ _ _ none _ _ _); refine PT_none ?_)
  | ((with_reducible show PT _ _ _ _ _ _ (some _) _ _ _); refine PT_some ?_)
  | ((with_reducible show TV _ _ _ _ _ _ (isTrue (Expr.Compare _ _ _ _) _ _) _ _); refine TV_Compare ?_)
  | ((with_reducible show TV _ _ _ _ _ _ (isTrue (Expr.BoolOp _ _ _) _ _) _ _); refine TV_BoolOp ?_)
  | ((with_reducible show AllT _ _ _ _ _ _ BoolOp.And [] _ _ _); refine And_nil ?_)
  | ((with_reducible show AllT _ _ _ _ _ _ BoolOp.And _ _ _ _); refine And_cons ?_)
  | ((with_reducible show AllT _ _ _ _ _ _ BoolOp.Or [] _ _ _); refine Or_nil ?_)
  | ((with_reducible show AllT _ _ _ _ _ _ BoolOp.Or _ _ _ _); refine Or_cons ?_)
  | ((with_reducible show UV _ _ _ _ _ _ _ _ _); first | refine UV_L (by assumption) ?_ | refine UV_C rfl (by ke_reads) (by first | exact .inl rfl | exact .inr ⟨_, rfl⟩) (by assumption) ?_)
  | ((with_reducible show OP2 _ _ _ _ Operator.Add (AV.int _) (AV.int _) _ _); refine op_add ?_)
  | ((with_reducible show OP2 _ _ _ _ Operator.Sub (AV.int _) (AV.int _) _ _); refine op_sub ?_)
  | ((with_reducible show OP2 _ _ _ _ Operator.BitAnd (AV.int _) (AV.int _) _ _); refine op_and ?_)
  | ((with_reducible show OP2 _ _ _ _ Operator.BitOr (AV.int _) (AV.int _) _ _); refine op_or ?_)
  | ((with_reducible show OP2 _ _ _ _ Operator.Mult (AV.int _) (AV.int _) _ _); refine op_mul (by ke_read) ?_)
  | ((with_reducible show OP2 _ _ _ _ Operator.FloorDiv (AV.int _) (AV.int _) _ _); refine op_fdiv (by ke_read) (by ke_read) ?_)
  | ((with_reducible show OP2 _ _ _ _ Operator.Mod (AV.int _) (AV.int _) _ _); refine op_fmod (by ke_read) ?_)
  | ((with_reducible show OP2 _ _ _ _ Operator.LShift (AV.int _) (AV.int _) _ _); refine op_shl (by ke_read) (by ke_read) (by ke_read) ?_)
  | ((with_reducible show OP2 _ _ _ _ Operator.RShift (AV.int _) (AV.int _) _ _); refine op_shr (by ke_read) ?_)
  | ((with_reducible show OP2 _ _ _ _ Operator.Pow (AV.int _) (AV.int _) _ _); refine op_pow (by ke_read) (by ke_read) (by ke_read) ?_)
  | ((with_reducible show IP2 _ _ _ _ Operator.Add _ _ _ _); refine ip_add ?_)
  | ((with_reducible show IP2 _ _ _ _ Operator.Sub _ _ _ _); refine ip_sub ?_)
  | ((with_reducible show IP2 _ _ _ _ Operator.BitOr _ _ _ _); refine ip_or ?_)
  | ((with_reducible show IP2 _ _ _ _ Operator.Mod _ _ _ _); refine ip_fmod (by ke_read) ?_)
  | ((with_reducible show IP2 _ _ _ _ Operator.RShift _ _ _ _); refine ip_shr (by ke_read) ?_)
  | ((with_reducible show CM2 _ _ _ _ CmpOp.Lt (AV.int _) (AV.int _) _ _); refine cm_lt ?_)
  | ((with_reducible show CM2 _ _ _ _ CmpOp.LtE (AV.int _) (AV.int _) _ _); refine cm_le ?_)
  | ((with_reducible show CM2 _ _ _ _ CmpOp.Gt (AV.int _) (AV.int _) _ _); refine cm_gt ?_)
  | ((with_reducible show CM2 _ _ _ _ CmpOp.GtE (AV.int _) (AV.int _) _ _); refine cm_ge ?_)
  | ((with_reducible show CM2 _ _ _ _ CmpOp.Eq (AV.int _) (AV.int _) _ _); refine cm_eq ?_)
  | ((with_reducible show CM2 _ _ _ _ CmpOp.NotEq (AV.int _) (AV.int _) _ _); refine cm_ne ?_)
  | ((with_reducible show CM2 _ _ _ _ CmpOp.Is _ AV.none _ _); refine cm_is_none ?_)
  | ((with_reducible show CM2 _ _ _ _ CmpOp.In (AV.int _) (AV.ref _) _ _); refine cm_in (by ke_reads) ?_)
  | ((with_reducible show CM2 _ _ _ _ CmpOp.NotIn (AV.int _) (AV.ref _) _ _); refine cm_notin (by ke_reads) ?_)
  | ((with_reducible show UP1 _ _ _ _ UnaryOp.USub _ _ _); refine up_neg ?_)
  | ((with_reducible show CW _ _ _ _ _ _ _ _ (AV.bi _) _ _ _); refine CW_bi ?_)
  | ((with_reducible show CW _ _ _ _ _ _ _ _ (AV.ty _) _ _ _); refine CW_ty ?_)
  | ((with_reducible show CW _ _ _ _ _ _ _ _ (AV.ref (OfNat.ofNat _)) _ _ _); refine CW_K (by assumption) (by kernel_rfl) ?_)
  | ((with_reducible show CL _ _ _ _ (AV.bi "len") _ _ _); refine cl_len (by ke_reads) (by ke_read) ?_)
  | ((with_reducible show CL _ _ _ _ (AV.bi "max") _ _ _); refine cl_max (by assumption) ?_)
  | ((with_reducible show CL _ _ _ _ (AV.bi "min") _ _ _); refine cl_min (by assumption) ?_)
  | ((with_reducible show CL _ _ _ _ (AV.bi "abs") _ _ _); refine cl_abs ?_)
  | ((with_reducible show SV _ _ _ _ _ _ (execs [] _) _ _); refine SV_nil ?_)
  | ((with_reducible show SV _ _ _ _ _ _ (execs _ _) _ _); refine SV_cons ?_)
  | ((with_reducible show SV _ _ _ _ _ _ (exec (Stmt.Assign [Expr.Name _ _] _ _) _) _ _); refine SV_Assign ?_)
  | ((with_reducible show SV _ _ _ _ _ _ (exec (Stmt.Assign [Expr.Subscript _ _ _] _ _) _) _ _); refine SV_SetItem ?_)
  | ((with_reducible show SV _ _ _ _ _ _ (exec (Stmt.AugAssign _ _ _ _) _) _ _); refine SV_Aug ?_)
  | ((with_reducible show SV _ _ _ _ _ _ (exec (Stmt.Return _ _) _) _ _); refine SV_Return ?_)
  | ((with_reducible show SV _ _ _ _ _ _ (exec (Stmt.If _ _ _ _) _) _ _); refine SV_If ?_)
  | ((with_reducible show SV _ _ _ _ _ _ (exec (Stmt.Continue _) _) _ _); refine SV_Continue ?_)
  | ((with_reducible show SV _ _ _ _ _ _ (exec (Stmt.Expr _ _) _) _ _); refine SV_Expr ?_)
  | ((with_reducible show ∀ vc, VR _ vc → _); intro vc hvc)
  | ((with_reducible show ∃ d, AV.bool _ = AV.bool d ∧ _); refine ⟨_, rfl, ?_⟩)
  | ((with_reducible show ∃ i, AV.int _ = AV.int i ∧ _); refine ⟨_, rfl, ?_⟩)
  | ((with_reducible show Seq _ _ _ _ _ _ _ _ AF.next _ _); refine Seq_next ?_)
  | ((with_reducible show Seq _ _ _ _ _ _ _ _ (AF.ret _) _ _); refine Seq_ret ?_)
  | ((with_reducible show Seq _ _ _ _ _ _ _ _ AF.cont _ _); refine Seq_cont ?_)
  | ((with_reducible show Back _ _ (AF.ret _) _ _); refine Back_ret ?_)
  | fail "no step")
section
variable {prog : Program} {w : World} {h₁ : Heap} {A : Around} {hp : Hp} {Q : AV → Hp → Prop}
theorem normal_spec (C : CX prog w (hd.heap_1 w.params) h₁) (rm : Room A 1) {a : Addr} {ns : List Int} (ha : hp a = some (.list (iL ns))) (hn : ns.length ≤ 10000) (h : ∀ b, hp b = none → Q (.ref b) (up hp b (.list (iL (nrm ns))))) :
    CL prog w h₁ A (.ref 46) [.ref a] hp Q := by
  refine CV_fn C (xs := ["a"]) rfl rfl (by have := rm.hd; lia) rfl ?_ rfl (by decide) (by decide) rfl rfl rfl ?_
  · rintro (_ | ⟨x, _ | ⟨y, r⟩⟩) hv
    · cases hv
    · rfl
    · cases hv
  intro L
  repeat ktr_rel
  refine SV_While (fun n m hp' => hp' = hp ∧ n ≤ ns.length ∧ nrm (ns.take n) = nrm ns ∧ Sub [("end", .int n), ("a", .ref a)] m) ns.length ⟨rfl, Nat.le_refl _, by rw [List.take_length], ?_⟩ ?_
  · rw [iL_len]; exact Sub.refl
  rintro n m hp' ⟨rfl, hn', hz, hs⟩
  refine ⟨_, _, hs, Les.refl, ?_⟩
  repeat ktr_rel
  refine ⟨fun hb => ?_, fun hb => ?_⟩
  · simp at hb
    obtain ⟨e, rfl⟩ : ∃ e, n = e + 1 := ⟨n - 1, by lia⟩
    obtain ⟨x, hx⟩ : ∃ x, ns[e]? = some x := ⟨ns[e], List.getElem?_eq_getElem (by lia)⟩
    repeat ktr_rel
    refine sub_list ha (by lia) (by lia) (v := .int x) (by simp; exact hx) ?_
    repeat ktr_rel
    refine ⟨fun hc => ?_, fun hc => ?_⟩
    · simp at hc
      subst hc
      repeat ktr_rel
      refine ⟨fun _ => ?_, fun hd => by simp at hd⟩
      repeat ktr_rel
      refine ⟨e, by lia, rfl, by lia, by rw [← hz, nrm_zero hx], Sub.cons ?_ (Sub.cons rfl Sub.nil)⟩
      show some (AV.int _) = _
      congr 2; lia
    · simp at hc
      refine ⟨fun hd => by simp at hd, fun _ => ?_⟩
      rw [nrm_ne hx hc] at hz
      repeat ktr_rel
      refine ⟨_, _, _, rfl, ha, by rw [iL_len]; lia, sl_upto (by rw [iL_len]; lia), fun b hb => ?_⟩
      rw [iL_take, hz]
      exact h b hb
  · simp at hb
    have hn0 : n = 0 := by lia
    subst hn0
    refine ⟨fun hd => by simp at hd, fun _ => ?_⟩
    repeat ktr_rel
    refine ⟨_, _, _, rfl, ha, by rw [iL_len]; lia, sl_upto (by rw [iL_len]; lia), fun b hb => ?_⟩
    rw [iL_take, List.take_zero, show ([] : List Int) = nrm ns from by rw [← hz]; rfl]
    exact h b hb

/-- bits -/
def bitsF (ns : List Int) (W : Int) : Int := match ns.getLast? with
  | none => 0
  | some x => ((ns.length : Int) - 1) * W + (Builtin.Int.intBits x : Int)
theorem bits_spec (C : CX prog w (hd.heap_1 w.params) h₁) (rm : Room A 1) {a : Addr} {ns : List Int} {W : Int} (ha : hp a = some (.list (iL ns))) (hn : ns.length ≤ 10000) (hW : W.natAbs < 1000) (h : Q (.int (bitsF ns W)) hp) :
    CL prog w h₁ A (.ref 81) [.ref a, .int W] hp Q := by
  refine CV_fn C (xs := ["a", "w"]) rfl rfl (by have := rm.hd; lia) rfl ?_ rfl (by decide) (by decide) rfl rfl rfl ?_
  · rintro (_ | ⟨x, _ | ⟨y, _ | ⟨z, r⟩⟩⟩) hv <;> first | rfl | cases hv
  intro L
  repeat ktr_rel
  refine EV_IfExp ?_
  repeat ktr_rel
  refine ⟨fun hb => ?_, fun hb => ?_⟩
  · simp at hb
    obtain ⟨x, hx⟩ : ∃ x, ns.getLast? = some x := by
      cases ns with
      | nil => simp at hb
      | cons y r => exact ⟨_, List.getLast?_cons⟩
    repeat ktr_rel
    refine sub_last ha (v := .int x) (by simp [hx]) ?_
    repeat ktr_rel
    have e : bitsF ns W = ((ns.length : Int) - 1) * W + (Builtin.Int.intBits x : Int) := by unfold bitsF; rw [hx]
    rw [e] at h
    rw [iL_len]
    exact h
  · simp at hb
    subst hb
    repeat ktr_rel

theorem bit_spec (C : CX prog w (hd.heap_1 w.params) h₁) (rm : Room A 1) {a : Addr} {W e n : Nat} (hW : 0 < W) (hW2 : W < 1000) (ha : hp a = some (.list (iL (lim W e)))) (hn : (lim W e).length ≤ 10000) (h : Q (.int ((e / 2 ^ n % 2 : Nat) : Int)) hp) :
    CL prog w h₁ A (.ref 88) [.ref a, .int n, .int W] hp Q := by
  refine CV_fn C (xs := ["a", "n", "w"]) rfl rfl (by have := rm.hd; lia) rfl ?_ rfl (by decide) (by decide) rfl rfl rfl ?_
  · rintro (_ | ⟨x, _ | ⟨y, _ | ⟨z, _ | ⟨u, r⟩⟩⟩⟩) hv <;> first | rfl | cases hv
  intro L
  repeat ktr_rel
  refine EV_IfExp ?_
  repeat ktr_rel
  rw [fdivN, iL_len]
  refine ⟨fun hb => ?_, fun hb => ?_⟩
  · simp only [decide_eq_true_eq, Int.ofNat_lt] at hb
    have hb2 := (lim_len_iff hW _ _).mp hb
    repeat ktr_rel
    rw [fdivN]
    have hq : 0 ≤ ((n / W : Nat) : Int) := Int.natCast_nonneg _
    generalize hz : n / W = q at *
    refine sub_list ha (by lia) (by lia) (v := .int ((e / 2 ^ (W * q) % 2 ^ W : Nat) : Int)) ?_ ?_
    · rw [Int.toNat_natCast]; exact iL_get (by rw [lim_get hW, if_neg hb2])
    repeat ktr_rel
    rw [fmodN]
    repeat ktr_rel
    rw [← hz, bit_val hW]
    exact h
  · simp only [decide_eq_false_iff_not, Int.ofNat_lt] at hb
    repeat ktr_rel
    rw [bit_zero (Classical.byContradiction fun q => hb ((lim_len_iff hW _ _).mpr q)) hW] at h
    exact h

end
section
variable {prog : Program} {w : World} {h₁ : Heap} {A : Around} {hp : Hp} {Q : AV → Hp → Prop}
theorem compare_spec (C : CX prog w (hd.heap_1 w.params) h₁) (rm : Room A 1) {a b : Addr} {as bs : List Int} {B : Int} (hB : 1 ≤ B) (ha : hp a = some (.list (iL as))) (hb : hp b = some (.list (iL bs))) (la : as.length ≤ 10000) (lb : bs.length ≤ 10000)
    (ra : Lim B as) (rb : Lim B bs) (na : Nm as) (nb : Nm bs) (h : ∀ c hp', Les hp hp' → (c < 0 ↔ val B as < val B bs) → Q (.int c) hp') :
    CL prog w h₁ A (.ref 53) [.ref a, .ref b] hp Q := by
  refine CV_fn C (xs := ["a", "b"]) rfl rfl (by have := rm.hd; lia) rfl ?_ rfl (by decide) (by decide) rfl rfl rfl ?_
  · rintro (_ | ⟨x, _ | ⟨y, _ | ⟨z, r⟩⟩⟩) hv <;> first | rfl | cases hv
  intro L
  have hh := rm.hh
  repeat ktr_rel
  refine ⟨fun hne => ?_, fun heq => ?_⟩
  · rw [iL_len, iL_len] at hne
    simp only [decide_eq_true_eq] at hne
    repeat ktr_rel
    refine EV_IfExp ?_
    repeat ktr_rel
    rw [iL_len, iL_len]
    refine ⟨fun hlt => ?_, fun hlt => ?_⟩
    · simp only [decide_eq_true_eq] at hlt
      repeat ktr_rel
      exact h _ _ Les.refl ⟨fun _ => cmp_len hB ra rb nb (by lia), fun _ => by decide⟩
    · simp only [decide_eq_false_iff_not] at hlt
      repeat ktr_rel
      refine h _ _ Les.refl ⟨fun q => absurd q (by decide), fun q => ?_⟩
      have := cmp_len hB rb ra na (show bs.length < as.length by lia)
      lia
  · rw [iL_len, iL_len] at heq
    simp only [decide_eq_false_iff_not] at heq
    have hl : as.length = bs.length := by lia
    repeat ktr_rel
    refine SV_For_rng (by exact hh) (fun i m hp' => Les hp hp' ∧ i ≤ as.length ∧ as.drop (as.length - i) = bs.drop (as.length - i) ∧ Sub [("a", .ref a), ("b", .ref b)] m) ?_
    repeat ktr_rel
    rw [iL_len]
    refine cl_range3 (by decide) (by decide) fun r hr => ⟨_, _, _, _, rfl, up_same _ _ _, sm_down (by lia) (by lia) (by lia) (by decide) (by decide), by rw [rs_down (by lia)]; lia, ⟨Les.refl.new hr, Nat.zero_le _, by simp [hl], Sub.refl⟩, ?_, ?_⟩
    · rintro i m hp' hi ⟨le, _, hd, hs⟩
      rw [rs_down (by lia)] at hi
      obtain ⟨k, hk⟩ : ∃ k : Nat, as.length = i + k + 1 := ⟨as.length - i - 1, by lia⟩
      have e1 : (as.length : Int) - 1 + (i : Int) * -1 = (k : Int) := by lia
      have e2 : as.length - i = k + 1 := by lia
      rw [e2] at hd
      have hx : as[k]? = some as[k] := List.getElem?_eq_getElem (by lia)
      have hy : bs[k]? = some bs[k] := List.getElem?_eq_getElem (by lia)
      generalize as[k] = x at hx
      generalize bs[k] = y at hy
      rw [e1]
      refine SV_at hs.put Les.refl ?_
      repeat ktr_rel
      refine sub_list (le _ _ ha) (by lia) (by lia) (v := .int x) (iL_get (by simpa using hx)) ?_
      repeat ktr_rel
      refine sub_list (le _ _ hb) (by lia) (by lia) (v := .int y) (iL_get (by simpa using hy)) ?_
      repeat ktr_rel
      refine ⟨fun hne => ?_, fun heq => ?_⟩
      · simp only [decide_eq_true_eq] at hne
        repeat ktr_rel
        refine EV_IfExp ?_
        repeat ktr_rel
        refine sub_list (le _ _ ha) (by lia) (by lia) (v := .int x) (iL_get (by simpa using hx)) ?_
        repeat ktr_rel
        refine sub_list (le _ _ hb) (by lia) (by lia) (v := .int y) (iL_get (by simpa using hy)) ?_
        repeat ktr_rel
        refine ⟨fun hlt => ?_, fun hlt => ?_⟩
        · simp only [decide_eq_true_eq] at hlt
          repeat ktr_rel
          exact h _ _ le ⟨fun _ => cmp_dig (by lia) ra rb hx hy hd hlt, fun _ => by decide⟩
        · simp only [decide_eq_false_iff_not] at hlt
          repeat ktr_rel
          refine h _ _ le ⟨fun q => absurd q (by decide), fun q => ?_⟩
          have := cmp_dig (by lia) rb ra hy hx hd.symm (by lia)
          lia
      · simp only [decide_eq_false_iff_not, Decidable.not_not] at heq
        subst heq
        repeat ktr_rel
        refine ⟨le, by lia, ?_, Sub.cons rfl (Sub.cons rfl Sub.nil)⟩
        have e3 : as.length - (i + 1) = k := by lia
        rw [e3, drop_cons hx, drop_cons hy, hd]
    · rintro m hp' ⟨le, _, hd, hs⟩
      rw [rs_down (by lia)] at hd
      have e : as.length - ((as.length : Int) - 1 - -1).toNat = 0 := by lia
      rw [e] at hd
      simp only [List.drop_zero] at hd
      repeat ktr_rel
      refine h _ _ le ⟨fun q => absurd q (by decide), fun q => ?_⟩
      rw [hd] at q; lia

end
section
variable {prog : Program} {w : World} {h₁ : Heap} {A : Around} {hp : Hp} {Q : AV → Hp → Prop}
theorem divrem_limb_spec (C : CX prog w (hd.heap_1 w.params) h₁) (rm : Room A 2) {a : Addr} {as : List Int} {W : Nat} {d : Int} (hW : W ≤ 7) (ha : hp a = some (.list (iL as))) (la : as.length ≤ 5000)
    (ra : Lim (2 ^ W) as) (h0 : 0 < d) (h1 : d ≤ 2 ^ W) (h : ∀ t b fs hp', Les hp hp' → hp' t = some (.tup [.ref b, .int (val (2 ^ W) as % d)]) → hp' b = some (.list (iL fs)) → Q (.ref t) hp') :
    CL prog w h₁ A (.ref 60) [.ref a, .int d, .int W] hp Q := by
  refine CV_fn C (xs := ["a", "limb", "w"]) rfl rfl (by have := rm.hd; omega) rfl ?_ rfl (by decide) (by decide) rfl rfl rfl ?_
  · rintro (_ | ⟨x0, _ | ⟨x1, _ | ⟨x2, _ | ⟨x3, r⟩⟩⟩⟩) hv <;> first | rfl | cases hv
  intro L
  have hh : A.handled = none := rm.hh
  have hB := B128 hW
  have hB0 := pw_pos W
  repeat ktr_rel
  refine ⟨fun q => by simp at q; lia, fun _ => ?_⟩
  repeat ktr_rel
  refine SV_AsgSw2 (by exact hh) ?_
  repeat ktr_rel
  refine ⟨by simp, fun z hz => ?_⟩
  repeat ktr_rel
  rw [iL_len]
  refine op_rep (up_same _ _ _) (by lia) (by lia) fun f hf => ?_
  repeat ktr_rel
  refine ⟨by simp, fun t ht => ⟨t, _, _, rfl, up_same _ _ _, ?_⟩⟩
  rw [iL_rep, Int.toNat_natCast]
  have hz2 : hp f = none := Les.none (Les.refl.new hz) hf
  have lf : Les hp (up (up (up hp z (.list [.int 0])) f (.list (iL (List.replicate as.length 0)))) t (.tup [.ref f, .int 0])) := ((Les.refl.new hz).new hz2).new (Les.none ((Les.refl.new hz).new hz2) ht)
  have hff : (up (up (up hp z (.list [.int 0])) f (.list (iL (List.replicate as.length 0)))) t (.tup [.ref f, .int 0])) f = some (.list (iL (List.replicate as.length 0))) := by ke_reads
  generalize (up (up (up hp z (.list [.int 0])) f (.list (iL (List.replicate as.length 0)))) t (.tup [.ref f, .int 0])) = hp0 at lf hff
  repeat ktr_rel
  refine SV_For_rng (by exact hh) (fun i m hp' => Les hp hp' ∧ i ≤ as.length ∧ (∃ fs : List Int, hp' f = some (.list (iL fs)) ∧ fs.length = as.length) ∧ Sub [("rest", .int (val (2 ^ W) (as.drop (as.length - i)) % d)), ("found", .ref f), ("a", .ref a), ("limb", .int d), ("w", .int W)] m) ?_
  repeat ktr_rel
  rw [iL_len]
  refine cl_range3 (by decide) (by decide) fun r hr => ⟨_, _, _, _, rfl, up_same _ _ _, sm_down (by lia) (by lia) (by lia) (by decide) (by decide), by rw [rs_down (by lia)]; lia, ⟨lf.new (Les.none lf hr), Nat.zero_le _, ⟨_, by ke_reads, by simp⟩, by simp [val]; exact Sub.cons rfl (Sub.cons rfl (Sub.cons rfl (Sub.cons rfl (Sub.cons rfl Sub.nil))))⟩, ?_, ?_⟩
  · rintro i m hp' hi ⟨le, _, ⟨fs, hf1, hf2⟩, hs⟩
    rw [rs_down (by lia)] at hi
    obtain ⟨k, hk⟩ : ∃ k : Nat, as.length = i + k + 1 := ⟨as.length - i - 1, by lia⟩
    have e1 : (as.length : Int) - 1 + (i : Int) * -1 = (k : Int) := by lia
    have e2 : as.length - i = k + 1 := by lia
    have e3 : as.length - (i + 1) = k := by lia
    have hx : as[k]? = some as[k] := List.getElem?_eq_getElem (by lia)
    generalize as[k] = x at hx
    have hxr := ra.get hx
    rw [e1]
    rw [e2] at hs
    have m0 := Int.emod_nonneg (val (2 ^ W) (as.drop (k + 1))) (show d ≠ 0 by lia)
    have m1 := Int.emod_lt_of_pos (val (2 ^ W) (as.drop (k + 1))) h0
    have m2 := mod_step (V := val (2 ^ W) (as.drop (k + 1))) (d := d) (B := 2 ^ W) (x := x)
    rw [← val_drop _ _ hx] at m2
    generalize val (2 ^ W) (as.drop (k + 1)) % d = rr at *
    refine SV_at hs.put Les.refl ?_
    repeat ktr_rel
    rw [Int.toNat_natCast]
    refine sub_list (le _ _ ha) (by lia) (by lia) (v := .int x) (iL_get (by simpa using hx)) ?_
    repeat ktr_rel
    rw [lor_shift W m0 hxr.1 hxr.2]
    repeat ktr_rel
    refine ⟨f, rfl, by rw [hf1]; nofun, fun vi vv e1' e2' => set_list hf1 (by lia) (by rw [iL_len]; lia) (by lia) e1' e2' ?_⟩
    rw [iL_set]
    repeat ktr_rel
    rw [fmodP h0, m2]
    refine ⟨fun b ob e => ?_, by lia, ⟨_, up_same _ _ _, by simp [hf2]⟩, ?_⟩
    · rw [up_ne (ne_of_none e hz2)]; exact le b ob e
    · rw [e3]; exact Sub.cons rfl (Sub.cons rfl (Sub.cons rfl (Sub.cons rfl (Sub.cons rfl Sub.nil))))
  · rintro m hp' ⟨le, _, ⟨fs, hf1, hf2⟩, hs⟩
    rw [rs_down (by lia)] at hs
    have e : as.length - ((as.length : Int) - 1 - -1).toNat = 0 := by lia
    rw [e, List.drop_zero] at hs
    refine SV_at hs Les.refl ?_
    repeat ktr_rel
    refine normal_spec C (rm.deeper.less (by lia)) hf1 (by lia) fun b hb => ?_
    repeat ktr_rel
    refine ⟨by simp, fun t ht => ?_⟩
    exact h t b _ _ ((le.new (Les.none le hb)).new (Les.none (le.new (Les.none le hb)) ht)) (up_same _ _ _) (by ke_reads)

end
section
variable {prog : Program} {w : World} {h₁ : Heap} {A : Around} {hp : Hp} {Q : AV → Hp → Prop}
theorem shift_left_spec (C : CX prog w (hd.heap_1 w.params) h₁) (rm : Room A 2) {a : Addr} {as : List Int} {W n : Nat} (hW : W ≤ 7) (hn : n < W) (ha : hp a = some (.list (iL as))) (la : as.length ≤ 5000) (hne : as ≠ [])
    (ra : Lim (2 ^ W) as) (h : ∀ b rs hp', Les hp hp' → hp b = none → hp' b = some (.list (iL rs)) → Lim (2 ^ W) rs → val (2 ^ W) rs = val (2 ^ W) as * 2 ^ n → (rs.length = as.length ∨ (rs.length = as.length + 1 ∧ (2 ^ W) ^ as.length ≤ val (2 ^ W) rs)) → Q (.ref b) hp') :
    CL prog w h₁ A (.ref 67) [.ref a, .int n, .int W] hp Q := by
  refine CV_fn C (xs := ["a", "n", "w"]) rfl rfl (by have := rm.hd; omega) rfl ?_ rfl (by decide) (by decide) rfl rfl rfl ?_
  · rintro (_ | ⟨x0, _ | ⟨x1, _ | ⟨x2, _ | ⟨x3, r⟩⟩⟩⟩) hv <;> first | rfl | cases hv
  intro L
  have hh : A.handled = none := rm.hh
  have hB := B128 hW
  have hB0 := pw_pos W
  have hn2 := pw_pos n
  have lne : as.length ≠ 0 := fun q => hne (List.length_eq_zero_iff.mp q)
  repeat ktr_rel
  rw [iL_len]
  refine ⟨fun q => by simp only [decide_eq_true_eq] at q; lia, fun _ => ?_⟩
  repeat ktr_rel
  refine SV_AsgSw2 (by exact hh) ?_
  repeat ktr_rel
  rw [fdivN, fmodN, Nat.div_eq_of_lt hn, Nat.mod_eq_of_lt hn]
  refine ⟨by simp, fun t ht => ⟨t, _, _, rfl, up_same _ _ _, ?_⟩⟩
  have l1 := Les.refl.new ht (o := .tup [AV.int ((0 : Nat) : Int), AV.int (n : Int)])
  generalize (up hp t (.tup [AV.int ((0 : Nat) : Int), AV.int (n : Int)])) = hp1 at l1
  repeat ktr_rel
  refine SV_AsgSw3 (by exact hh) ?_
  repeat ktr_rel
  refine ⟨by simp, fun z hz => ?_⟩
  repeat ktr_rel
  refine op_rep (up_same _ _ _) (by lia) (by lia) fun f hf => ?_
  repeat ktr_rel
  refine ⟨by simp, fun u hu => ⟨u, _, _, _, rfl, up_same _ _ _, ?_⟩⟩
  have l2 := l1.new (o := .list [AV.int 0]) (Les.none l1 hz)
  have hf2 : hp f = none := Les.none l2 hf
  have l3 := l2.new (o := .list (List.replicate ((0 : Nat) : Int).toNat (AV.int 0))) hf2
  have l4 := l3.new (o := .tup [AV.ref f, AV.int 0, AV.int (1 * 2 ^ (W : Int).toNat - 1)]) (Les.none l3 hu)
  have hff : (up (up (up hp1 z (.list [AV.int 0])) f (.list (List.replicate ((0 : Nat) : Int).toNat (AV.int 0)))) u (.tup [AV.ref f, AV.int 0, AV.int (1 * 2 ^ (W : Int).toNat - 1)])) f = some (.list (iL [])) := by ke_reads
  generalize (up (up (up hp1 z (.list [AV.int 0])) f (.list (List.replicate ((0 : Nat) : Int).toNat (AV.int 0)))) u (.tup [AV.ref f, AV.int 0, AV.int (1 * 2 ^ (W : Int).toNat - 1)])) = hp2 at l4 hff
  rw [Int.toNat_natCast, Int.one_mul]
  repeat ktr_rel
  refine SV_For_list (by exact hh) (fun i m hp' => Les hp hp' ∧ i ≤ as.length ∧ (∃ (fs : List Int) (c : Int), hp' f = some (.list (iL fs)) ∧ fs.length = i ∧ Lim (2 ^ W) fs ∧ 0 ≤ c ∧ c < 2 ^ n ∧ val (2 ^ W) fs + (2 ^ W) ^ i * c = val (2 ^ W) (as.take i) * 2 ^ n ∧
      Sub [("carry", .int c), ("found", .ref f), ("mask", .int (2 ^ W - 1)), ("few", .int n), ("a", .ref a), ("w", .int W)] m)) ?_
  repeat ktr_rel
  refine ⟨a, iL as, rfl, fun i m hp' j => j.1 _ _ ha, ⟨l4, Nat.zero_le _, [], 0, hff, rfl, Lim.nil, Int.le_refl _, hn2, by simp [val], Sub.cons rfl (Sub.cons rfl (Sub.cons rfl (Sub.cons rfl (Sub.cons rfl (Sub.cons rfl Sub.nil)))))⟩, ?_, ?_⟩
  · rintro i m hp' v hv ⟨le, _, fs, c, hf1, hf3, hf4, c0, c1, hval, hs⟩
    obtain ⟨x, hx, rfl⟩ : ∃ x, as[i]? = some x ∧ v = .int x := by
      rw [List.getElem?_map] at hv
      obtain ⟨x, e1, e2⟩ := Option.map_eq_some_iff.mp hv
      exact ⟨x, e1, e2.symm⟩
    have hi : i < as.length := (List.getElem?_eq_some_iff.mp hx).1
    have hxr := ra.get hx
    refine SV_at hs.put Les.refl ?_
    repeat ktr_rel
    rw [Int.toNat_natCast, lor_shift' n hxr.1 c0 c1]
    have b1 := shl_bound hn2 c1 hxr.2
    have b2 := shl_step (B := 2 ^ W) (x := x) hval
    have b3 : 0 ≤ x * 2 ^ n := Int.mul_nonneg hxr.1 (by lia)
    repeat ktr_rel
    refine ⟨f, _, rfl, hf1, ?_⟩
    repeat ktr_rel
    rw [and_mask]
    refine cl_append hf1 (by rw [iL_len]; lia) ⟨rfl, ?_⟩
    repeat ktr_rel
    rw [Int.toNat_natCast, fdivP]
    refine ⟨fun b ob e => ?_, by lia, fs ++ [(c + x * 2 ^ n) % 2 ^ W], (c + x * 2 ^ n) / 2 ^ W, ?_, by simp [hf3], ?_, Int.ediv_nonneg (by lia) (by lia), ediv_lt_of hB0 b1, ?_, Sub.cons rfl (Sub.cons rfl (Sub.cons rfl (Sub.cons rfl (Sub.cons rfl (Sub.cons rfl Sub.nil)))))⟩
    · rw [up_ne (ne_of_none e hf2)]; exact le b ob e
    · rw [up_same, iL_snoc]
    · exact hf4.append (Lim.cons (Int.emod_nonneg _ (by lia)) (Int.emod_lt_of_pos _ hB0) Lim.nil)
    · rw [val_snoc, val_take_succ _ _ hx, hf3, Int.pow_succ]; exact b2
  · rintro m hp' ⟨le, _, fs, c, hf1, hf3, hf4, c0, c1, hval, hs⟩
    rw [iL_len] at hf3 hval
    rw [List.take_length] at hval
    refine SV_at hs Les.refl ?_
    repeat ktr_rel
    refine ⟨fun hc => ?_, fun hc => ?_⟩
    · simp only [decide_eq_true_eq] at hc
      repeat ktr_rel
      refine ⟨f, _, rfl, hf1, ?_⟩
      repeat ktr_rel
      refine cl_append hf1 (by rw [iL_len]; lia) ⟨rfl, ?_⟩
      repeat ktr_rel
      have cB : c < 2 ^ W := Int.lt_of_lt_of_le c1 (pow_mono (by decide) (Nat.le_of_lt hn))
      have hval2 : val (2 ^ W) (fs ++ [c]) = val (2 ^ W) as * 2 ^ n := by rw [val_snoc, hf3]; exact hval
      refine h f (fs ++ [c]) _ (fun b ob e => by rw [up_ne (ne_of_none e hf2)]; exact le b ob e) hf2 (by rw [up_same, iL_snoc]) (hf4.append (Lim.cons c0 cB Lim.nil)) hval2 (.inr ⟨by simp [hf3], ?_⟩)
      rw [val_snoc, hf3]
      have v0 := (val_range hB0 hf4).1
      have p0 : 0 ≤ ((2 : Int) ^ W) ^ as.length := Int.le_of_lt (Int.pow_pos hB0)
      have : ((2 : Int) ^ W) ^ as.length * 1 ≤ ((2 : Int) ^ W) ^ as.length * c := Int.mul_le_mul_of_nonneg_left (by lia) p0
      lia
    · simp only [decide_eq_false_iff_not] at hc
      have c00 : c = 0 := by lia
      subst c00
      repeat ktr_rel
      exact h f fs _ le hf2 hf1 hf4 (by simpa using hval) (.inl hf3)

end
section
variable {prog : Program} {w : World} {h₁ : Heap} {A : Around} {hp : Hp} {Q : AV → Hp → Prop}
theorem shift_right_spec (C : CX prog w (hd.heap_1 w.params) h₁) (rm : Room A 2) {a : Addr} {as : List Int} {W n v : Nat} (hW : W ≤ 7) (hn : n < W) (ha : hp a = some (.list (iL as))) (la : as.length ≤ 5000)
    (ra : Lim (2 ^ W) as) (hv : val (2 ^ W) as = v) (h : ∀ b hp', Les hp hp' → hp b = none → hp' b = some (.list (iL (lim W (v / 2 ^ n)))) → Q (.ref b) hp') :
    CL prog w h₁ A (.ref 74) [.ref a, .int n, .int W] hp Q := by
  refine CV_fn C (xs := ["a", "n", "w"]) rfl rfl (by have := rm.hd; omega) rfl ?_ rfl (by decide) (by decide) rfl rfl rfl ?_
  · rintro (_ | ⟨x0, _ | ⟨x1, _ | ⟨x2, _ | ⟨x3, r⟩⟩⟩⟩) hv <;> first | rfl | cases hv
  intro L
  have hh : A.handled = none := rm.hh
  have hB := B128 hW
  have hB0 := pw_pos W
  have hn2 := pw_pos n
  repeat ktr_rel
  refine SV_AsgSw2 (by exact hh) ?_
  repeat ktr_rel
  rw [fdivN, fmodN, Nat.div_eq_of_lt hn, Nat.mod_eq_of_lt hn]
  refine ⟨by simp, fun t ht => ⟨t, _, _, rfl, up_same _ _ _, ?_⟩⟩
  have l1 := Les.refl.new ht (o := .tup [AV.int ((0 : Nat) : Int), AV.int (n : Int)])
  generalize (up hp t (.tup [AV.int ((0 : Nat) : Int), AV.int (n : Int)])) = hp1 at l1
  repeat ktr_rel
  refine SV_AsgSw2 (by exact hh) ?_
  repeat ktr_rel
  refine ⟨by simp, fun f hf => ?_⟩
  repeat ktr_rel
  refine ⟨by simp, fun u hu => ⟨u, _, _, rfl, up_same _ _ _, ?_⟩⟩
  have hf2 : hp f = none := Les.none l1 hf
  have l3 := l1.new (o := .list []) hf2
  have l4 := l3.new (o := .tup [AV.ref f, AV.int (1 * 2 ^ (W : Int).toNat - 1)]) (Les.none l3 hu)
  have hff : (up (up hp1 f (.list [])) u (.tup [AV.ref f, AV.int (1 * 2 ^ (W : Int).toNat - 1)])) f = some (.list (iL [])) := by ke_reads
  generalize (up (up hp1 f (.list [])) u (.tup [AV.ref f, AV.int (1 * 2 ^ (W : Int).toNat - 1)])) = hp2 at l4 hff
  rw [Int.toNat_natCast, Int.one_mul]
  repeat ktr_rel
  refine SV_For_rng (by exact hh) (fun i m hp' => Les hp hp' ∧ i ≤ as.length ∧ (∃ (fs : List Int), hp' f = some (.list (iL fs)) ∧ fs.length = i ∧ Lim (2 ^ W) fs ∧ 2 ^ n * val (2 ^ W) fs + gd as 0 % 2 ^ n = val (2 ^ W) (as.take i) + gd as i % 2 ^ n * (2 ^ W) ^ i) ∧
      Sub [("found", .ref f), ("mask", .int (2 ^ W - 1)), ("few", .int n), ("a", .ref a), ("w", .int W)] m) ?_
  repeat ktr_rel
  rw [iL_len]
  refine cl_range2 fun r hr => ⟨_, _, _, _, rfl, up_same _ _ _, sm_up (by lia) (by lia) (by lia) (by lia), by rw [rs_up (by lia)]; lia, ⟨l4.new (Les.none l4 hr), Nat.zero_le _, ⟨[], by ke_reads, rfl, Lim.nil, by simp [val]⟩, Sub.cons rfl (Sub.cons rfl (Sub.cons rfl (Sub.cons rfl (Sub.cons rfl Sub.nil))))⟩, ?_, ?_⟩
  · rintro i m hp' hi ⟨le, _, ⟨fs, hf1, hf3, hf4, hval⟩, hs⟩
    rw [rs_up (by lia)] at hi
    have e1 : ((0 : Nat) : Int) + (i : Int) * 1 = (i : Int) := by lia
    have hi2 : i < as.length := by lia
    have hx : as[i]? = some as[i] := List.getElem?_eq_getElem (by lia)
    generalize as[i] = x at hx
    have hxr := ra.get hx
    have hgx : gd as i = x := by unfold gd; rw [hx]; rfl
    rw [e1]
    refine SV_at hs.put Les.refl ?_
    refine SV_cons (SV_Assign (EV.mono (Q := fun v hp'' => v = .int (gd as (i + 1)) ∧ hp'' = hp') ?_ ?_))
    · refine EV_IfExp ?_
      repeat ktr_rel
      rw [iL_len]
      refine ⟨fun hc => ?_, fun hc => ?_⟩
      · simp only [decide_eq_true_eq] at hc
        have hy : as[i + 1]? = some as[i + 1] := List.getElem?_eq_getElem (by lia)
        generalize as[i + 1] = y at hy
        repeat ktr_rel
        refine sub_il (le _ _ ha) (i + 1) (by lia) (by lia) hy ?_
        exact ⟨by unfold gd; rw [hy]; rfl, rfl⟩
      · simp only [decide_eq_false_iff_not] at hc
        repeat ktr_rel
        exact ⟨by unfold gd; rw [List.getElem?_eq_none (by lia)]; rfl, rfl⟩
    · rintro _ _ ⟨rfl, rfl⟩
      have hy0 : 0 ≤ gd as (i + 1) := by
        unfold gd
        cases e : as[i + 1]? with
        | none => exact Int.le_refl _
        | some y => exact (ra.get e).1
      have hy1 : gd as (i + 1) < 2 ^ W := by
        unfold gd
        cases e : as[i + 1]? with
        | none => exact hB0
        | some y => exact (ra.get e).2
      have sl := shr_limb (W := W) (n := n) (x := x) (y := gd as (i + 1)) (by lia) hxr.1 hxr.2 hy0
      have st := shr_step (W := W) (n := n) (y := gd as (i + 1)) (by lia) hval (by rw [hgx])
      generalize hgy : gd as (i + 1) = y at *
      repeat ktr_rel
      refine ⟨f, _, rfl, hf1, ?_⟩
      repeat ktr_rel
      refine sub_il (le _ _ ha) i (by lia) (by lia) hx ?_
      repeat ktr_rel
      have ewn : ((W : Int) - (n : Int)).toNat = W - n := by lia
      rw [ewn, Int.toNat_natCast, sl.1]
      refine cl_append hf1 (by rw [iL_len]; lia) ⟨rfl, ?_⟩
      repeat ktr_rel
      refine ⟨fun b ob e => ?_, by lia, ⟨fs ++ [x / 2 ^ n + y % 2 ^ n * 2 ^ (W - n)], ?_, by simp [hf3], ?_, ?_⟩, Sub.cons rfl (Sub.cons rfl (Sub.cons rfl (Sub.cons rfl (Sub.cons rfl Sub.nil))))⟩
      · rw [up_ne (ne_of_none e hf2)]; exact le b ob e
      · rw [up_same, iL_snoc]
      · exact hf4.append (Lim.cons sl.2.2 sl.2.1 Lim.nil)
      · rw [val_snoc, val_take_succ _ _ hx, hf3, Int.pow_succ, hgy]; exact st
  · rintro m hp' ⟨le, _, ⟨fs, hf1, hf3, hf4, hval⟩, hs⟩
    rw [rs_up (by lia)] at hf3 hval
    have e : ((as.length : Int) - ((0 : Nat) : Int)).toNat = as.length := by lia
    rw [e] at hf3 hval
    have g0 : gd as as.length = 0 := by unfold gd; rw [List.getElem?_eq_none (Nat.le_refl _)]; rfl
    rw [List.take_length, g0, hv] at hval
    have r0 := Int.emod_nonneg (gd as 0) (show (2 : Int) ^ n ≠ 0 by lia)
    have r1 := Int.emod_lt_of_pos (gd as 0) hn2
    have hres : val (2 ^ W) fs = ((v / 2 ^ n : Nat) : Int) := by
      simp only [Int.zero_emod, Int.zero_mul, Int.add_zero] at hval
      have : (v : Int) / 2 ^ n = val (2 ^ W) fs := by
        rw [← hval, Int.add_comm, Int.add_mul_ediv_left _ _ (show (2 : Int) ^ n ≠ 0 by lia), Int.ediv_eq_zero_of_lt r0 r1, Int.zero_add]
      rw [← this]; simp
    refine SV_at hs Les.refl ?_
    repeat ktr_rel
    refine normal_spec C (rm.deeper.less (by lia)) hf1 (by lia) fun b hb => ?_
    rw [nrm_eq_lim (by lia) hf4 hres]
    exact h b _ (le.new (Les.none le hb)) (Les.none le hb) (up_same _ _ _)

end
section
variable {prog : Program} {w : World} {h₁ : Heap} {A : Around} {hp : Hp} {Q : AV → Hp → Prop}
theorem mul_school_spec (C : CX prog w (hd.heap_1 w.params) h₁) (rm : Room A 2) {a b : Addr} {as bs : List Int} {W v : Nat} (hW0 : 0 < W) (hW : W ≤ 7) (ha : hp a = some (.list (iL as))) (hb : hp b = some (.list (iL bs))) (la : as.length ≤ 2000) (lb : bs.length ≤ 2000)
    (ra : Lim (2 ^ W) as) (rb : Lim (2 ^ W) bs) (hv : val (2 ^ W) as * val (2 ^ W) bs = v) (h : ∀ b hp', Les hp hp' → hp b = none → hp' b = some (.list (iL (lim W v))) → Q (.ref b) hp') :
    CL prog w h₁ A (.ref 144) [.ref a, .ref b, .int W] hp Q := by
  refine CV_fn C (xs := ["a", "b", "w"]) rfl rfl (by have := rm.hd; omega) rfl ?_ rfl (by decide) (by decide) rfl rfl rfl ?_
  · rintro (_ | ⟨x0, _ | ⟨x1, _ | ⟨x2, _ | ⟨x3, r⟩⟩⟩⟩) hv <;> first | rfl | cases hv
  intro L
  have hh : A.handled = none := rm.hh
  have hB := B128 hW
  have hB0 := pw_pos W
  repeat ktr_rel
  refine SV_AsgSw2 (by exact hh) ?_
  repeat ktr_rel
  refine ⟨by simp, fun z hz => ?_⟩
  repeat ktr_rel
  rw [iL_len, iL_len]
  refine op_rep (up_same _ _ _) (by lia) (by lia) fun f hf => ?_
  repeat ktr_rel
  refine ⟨by simp, fun t ht => ⟨t, _, _, rfl, up_same _ _ _, ?_⟩⟩
  have etn : ((as.length : Int) + (bs.length : Int)).toNat = as.length + bs.length := by lia
  rw [iL_rep, etn, Int.toNat_natCast, Int.one_mul] at *
  have l1 := Les.refl.new (o := .list [AV.int 0]) hz
  have hf2 : hp f = none := Les.none l1 hf
  have l2 := l1.new (o := .list (iL (List.replicate (as.length + bs.length) 0))) hf2
  have l3 := l2.new (o := .tup [AV.ref f, AV.int (2 ^ W - 1)]) (Les.none l2 ht)
  have hff : (up (up (up hp z (.list [AV.int 0])) f (.list (iL (List.replicate (as.length + bs.length) 0)))) t (.tup [AV.ref f, AV.int (2 ^ W - 1)])) f = some (.list (iL (List.replicate (as.length + bs.length) 0))) := by ke_reads
  generalize (up (up (up hp z (.list [AV.int 0])) f (.list (iL (List.replicate (as.length + bs.length) 0)))) t (.tup [AV.ref f, AV.int (2 ^ W - 1)])) = hp0 at l3 hff
  repeat ktr_rel
  refine SV_For_enum (by exact hh) (fun i m hp' => Les hp hp' ∧ i ≤ as.length ∧ (∃ (fs : List Int), hp' f = some (.list (iL fs)) ∧ fs.length = as.length + bs.length ∧ Lim (2 ^ W) fs ∧ val (2 ^ W) fs = val (2 ^ W) (as.take i) * val (2 ^ W) bs) ∧
      Sub [("found", .ref f), ("mask", .int (2 ^ W - 1)), ("a", .ref a), ("b", .ref b), ("w", .int W)] m) (fun R hR => EV_ty C (by tb_rel) (by tb_rel) (by decide) hR) ?_
  repeat ktr_rel
  refine ⟨a, iL as, rfl, fun i m hp' j => j.1 _ _ ha, ⟨l3, Nat.zero_le _, ⟨_, hff, by simp, Lim.rep hB0 _, by simp [val_replicate, val]⟩, Sub.cons rfl (Sub.cons rfl (Sub.cons rfl (Sub.cons rfl (Sub.cons rfl Sub.nil))))⟩, ?_, ?_⟩
  · rintro i m hp' v' hv' ⟨le, _, ⟨fs, hf1, hf3, hf4, hval⟩, hs⟩
    obtain ⟨x, hx, rfl⟩ : ∃ x, as[i]? = some x ∧ v' = .int x := by
      rw [List.getElem?_map] at hv'
      obtain ⟨x, e1, e2⟩ := Option.map_eq_some_iff.mp hv'
      exact ⟨x, e1, e2.symm⟩
    have hi : i < as.length := (List.getElem?_eq_some_iff.mp hx).1
    have hxr := ra.get hx
    refine SV_at hs.put.put Les.refl ?_
    repeat ktr_rel
    refine SV_For_enum (by exact hh) (fun j m hp' => Les hp hp' ∧ j ≤ bs.length ∧ (∃ (gs : List Int) (c : Int), hp' f = some (.list (iL gs)) ∧ gs.length = as.length + bs.length ∧ Lim (2 ^ W) gs ∧ 0 ≤ c ∧ c < 2 ^ W ∧ val (2 ^ W) gs + c * (2 ^ W) ^ (i + j) = val (2 ^ W) fs + x * val (2 ^ W) (bs.take j) * (2 ^ W) ^ i ∧ gs.drop (i + j) = fs.drop (i + j) ∧
      Sub [("carry", .int c), ("limb", .int x), ("at", .int i), ("found", .ref f), ("mask", .int (2 ^ W - 1)), ("a", .ref a), ("b", .ref b), ("w", .int W)] m)) (fun R hR => EV_ty C (by tb_rel) (by tb_rel) (by decide) hR) ?_
    repeat ktr_rel
    refine ⟨b, iL bs, rfl, fun j m hp' q => q.1 _ _ hb, ⟨le, Nat.zero_le _, fs, 0, hf1, hf3, hf4, Int.le_refl _, hB0, by simp [val], rfl, Sub.cons rfl (Sub.cons rfl (Sub.cons rfl (Sub.cons rfl (Sub.cons rfl (Sub.cons rfl (Sub.cons rfl (Sub.cons rfl Sub.nil)))))))⟩, ?_, ?_⟩
    · rintro j m hp' v' hv' ⟨le, _, gs, c, hg1, hg3, hg4, c0, c1, hgv, hgd, hs⟩
      obtain ⟨y, hy, rfl⟩ : ∃ y, bs[j]? = some y ∧ v' = .int y := by
        rw [List.getElem?_map] at hv'
        obtain ⟨x, e1, e2⟩ := Option.map_eq_some_iff.mp hv'
        exact ⟨x, e1, e2.symm⟩
      have hj : j < bs.length := (List.getElem?_eq_some_iff.mp hy).1
      have hyr := rb.get hy
      have ho : gs[i + j]? = some gs[i + j] := List.getElem?_eq_getElem (by lia)
      generalize gs[i + j] = o at ho
      have hor := hg4.get ho
      have mb := mul_bound hB0 c1 hor.2 hxr.1 hxr.2 hyr.1 hyr.2
      have ms := mul_step (y := y) (o := o) (Pj := (2 ^ W) ^ j) (B := 2 ^ W) (by rw [Int.pow_add]) hgv
      have xy0 : 0 ≤ x * y := Int.mul_nonneg hxr.1 hyr.1
      refine SV_at hs.put.put Les.refl ?_
      repeat ktr_rel
      refine sub_il hg1 (i + j) (by lia) (by lia) ho ?_
      repeat ktr_rel
      rw [and_mask]
      refine ⟨f, rfl, by rw [hg1]; nofun, fun vi vv e1' e2' => set_list hg1 (by lia) (by rw [iL_len]; lia) (by lia) e1' e2' ?_⟩
      have ein : ((i : Int) + (j : Int)).toNat = i + j := by lia
      rw [iL_set, ein]
      repeat ktr_rel
      rw [Int.toNat_natCast, fdivP]
      refine ⟨fun p ob e => ?_, by lia, _, _, up_same _ _ _, by simp [hg3], hg4.set (Int.emod_nonneg _ (by lia)) (Int.emod_lt_of_pos _ hB0), Int.ediv_nonneg (by lia) (by lia), ediv_lt_of hB0 mb, ?_, ?_, Sub.cons rfl (Sub.cons rfl (Sub.cons rfl (Sub.cons rfl (Sub.cons rfl (Sub.cons rfl (Sub.cons rfl (Sub.cons rfl Sub.nil)))))))⟩
      · rw [up_ne (ne_of_none e hf2)]; exact le p ob e
      · rw [val_set _ _ _ _ _ ho, val_take_succ _ _ hy, ← Nat.add_assoc, Int.pow_succ]; exact ms
      · rw [← Nat.add_assoc, List.drop_set_of_lt (by lia), ← List.drop_drop, hgd, List.drop_drop]
    · rintro m hp' ⟨le, _, gs, c, hg1, hg3, hg4, c0, c1, hgv, hgd, hs⟩
      rw [iL_len] at hgv hgd
      rw [List.take_length] at hgv
      refine SV_at hs Les.refl ?_
      repeat ktr_rel
      rw [iL_len]
      have ho : gs[i + bs.length]? = some gs[i + bs.length] := List.getElem?_eq_getElem (by lia)
      generalize gs[i + bs.length] = o at ho
      have ho2 : fs[i + bs.length]? = some o := by
        have e1 : (gs.drop (i + bs.length))[0]? = some o := by rw [List.getElem?_drop]; exact ho
        rw [hgd, List.getElem?_drop] at e1
        exact e1
      have ta := val_range hB0 (ra.take i)
      rw [List.length_take, Nat.min_eq_left (Nat.le_of_lt hi)] at ta
      have tb := val_range hB0 rb
      have ho3 : o = 0 := top_zero hB0 hf4 ho2 (by rw [hval]; exact prod_bound hB0 ta.1 ta.2 tb.1 tb.2)
      subst ho3
      refine ⟨f, rfl, by rw [hg1]; nofun, fun vi vv e1' e2' => set_list hg1 (by lia) (by rw [iL_len]; lia) (by lia) e1' e2' ?_⟩
      have ein : ((i : Int) + (bs.length : Int)).toNat = i + bs.length := by lia
      rw [iL_set, ein]
      repeat ktr_rel
      refine ⟨fun p ob e => ?_, by lia, ⟨_, up_same _ _ _, by simp [hg3], hg4.set c0 c1, ?_⟩, Sub.cons rfl (Sub.cons rfl (Sub.cons rfl (Sub.cons rfl (Sub.cons rfl Sub.nil))))⟩
      · rw [up_ne (ne_of_none e hf2)]; exact le p ob e
      · rw [val_set _ _ _ _ _ ho, val_take_succ _ _ hx, hval] at *
        grind
  · rintro m hp' ⟨le, _, ⟨fs, hf1, hf3, hf4, hval⟩, hs⟩
    rw [iL_len, List.take_length, hv] at hval
    refine SV_at hs Les.refl ?_
    repeat ktr_rel
    refine normal_spec C (rm.deeper.less (by lia)) hf1 (by lia) fun b hb => ?_
    rw [nrm_eq_lim hW0 hf4 hval]
    exact h b _ (le.new (Les.none le hb)) (Les.none le hb) (up_same _ _ _)

end
section
variable {prog : Program} {w : World} {h₁ : Heap} {A : Around} {hp : Hp} {Q : AV → Hp → Prop}
theorem guessed_spec (C : CX prog w (hd.heap_1 w.params) h₁) (rm : Room A 1) {a : Addr} {t0 t1 t2 v1 v2 : Int} {W : Nat} (hW0 : 0 < W) (hW : W ≤ 7) (ha : hp a = some (.list (iL [t0, t1, t2])))
    (r0 : 0 ≤ t0 ∧ t0 < 2 ^ W) (r1 : 0 ≤ t1 ∧ t1 < 2 ^ W) (r2 : 0 ≤ t2 ∧ t2 < 2 ^ W) (s1 : 0 < v1 ∧ v1 < 2 ^ W) (s2 : 0 ≤ v2 ∧ v2 < 2 ^ W)
    (h : ∀ q hp', Les hp hp' → 0 ≤ q → q < 2 ^ W → G3 (2 ^ W) v1 v2 (t2 * 2 ^ W + t1) t0 q → q * (v1 * 2 ^ W + v2) ≤ (t2 * 2 ^ W + t1) * 2 ^ W + t0 → Q (.int q) hp') :
    CL prog w h₁ A (.ref 158) [.ref a, .int v1, .int v2, .int W] hp Q := by
  refine CV_fn C (xs := ["top", "first", "second", "w"]) rfl rfl (by have := rm.hd; omega) rfl ?_ rfl (by decide) (by decide) rfl rfl rfl ?_
  · rintro (_ | ⟨x0, _ | ⟨x1, _ | ⟨x2, _ | ⟨x3, _ | ⟨x4, r⟩⟩⟩⟩⟩) hv <;> first | rfl | cases hv
  intro L
  have hh : A.handled = none := rm.hh
  have hB := B128 hW
  have hB0 := pw_pos W
  have hB1 : (1 : Int) < 2 ^ W := by
    have : (2 : Int) ^ 1 ≤ 2 ^ W := pow_mono (by decide) hW0
    lia
  repeat ktr_rel
  refine SV_AsgSw2 (by exact hh) ?_
  repeat ktr_rel
  refine sub_il ha 2 rfl (by decide) rfl ?_
  repeat ktr_rel
  refine sub_il ha 1 rfl (by decide) rfl ?_
  repeat ktr_rel
  rw [Int.toNat_natCast, Int.one_mul, lor_shift W r2.1 r1.1 r1.2]
  have hi0 : 0 ≤ t2 * 2 ^ W + t1 := by
    have : 0 ≤ t2 * 2 ^ W := Int.mul_nonneg r2.1 (by lia)
    lia
  refine ⟨by simp, fun t ht => ⟨t, _, _, rfl, up_same _ _ _, ?_⟩⟩
  have l1 := Les.refl.new ht (o := .tup [AV.int (t2 * 2 ^ W + t1), AV.int (2 ^ W)])
  generalize (up hp t (.tup [AV.int (t2 * 2 ^ W + t1), AV.int (2 ^ W)])) = hp1 at l1
  generalize t2 * 2 ^ W + t1 = hi at *
  repeat ktr_rel
  rw [fdivQ s1.1]
  obtain ⟨g0, q0, q1, q2⟩ := g3_start hB1 s1.1 s2.1 hi0 r0.2 rfl
  generalize (if 2 ^ W - 1 < hi / v1 then 2 ^ W - 1 else hi / v1) = q at *
  repeat ktr_rel
  refine SV_While (fun n m hp' => Les hp hp' ∧ ∃ q : Int, n = q.toNat ∧ G3 (2 ^ W) v1 v2 hi t0 q ∧ 0 ≤ q ∧ q < 2 ^ W ∧ 0 ≤ hi - q * v1 ∧ Sub [("rest", .int (hi - q * v1)), ("limb", .int q), ("base", .int (2 ^ W)), ("top", .ref a), ("first", .int v1), ("second", .int v2), ("w", .int W)] m) q.toNat ⟨l1, q, rfl, g0, q0, q1, q2, Sub.cons rfl (Sub.cons rfl (Sub.cons rfl (Sub.cons rfl (Sub.cons rfl (Sub.cons rfl (Sub.cons rfl Sub.nil))))))⟩ ?_
  clear q g0 q0 q1 q2
  rintro n m hp' ⟨le, q, rfl, g0, q0, q1, q2, hs⟩
  refine ⟨_, _, hs, Les.refl, ?_⟩
  have fin : (2 ^ W ≤ hi - q * v1 ∨ q * v2 ≤ (hi - q * v1) * 2 ^ W + t0) → Q (.int q) hp' := fun c => h q hp' le q0 q1 g0 (g3_end hB0 s2.1 s2.2 q0 q1 r0.1 c)
  repeat ktr_rel
  refine ⟨fun hc => ?_, fun hc => ?_⟩
  · simp only [decide_eq_true_eq] at hc
    repeat ktr_rel
    refine sub_il (le _ _ ha) 0 rfl (by decide) rfl ?_
    repeat ktr_rel
    rw [Int.toNat_natCast, lor_shift W q2 r0.1 r0.2]
    refine ⟨fun hd => ?_, fun hd => ?_⟩
    · simp only [decide_eq_true_eq] at hd
      obtain ⟨g1, g2, g3, g4⟩ := g3_turn s2.1 q0 q2 hB0 r0.1 s1.1 hd
      repeat ktr_rel
      refine ⟨fun _ => ?_, fun hd => by simp at hd⟩
      repeat ktr_rel
      refine ⟨_, ?_, le, q - 1, rfl, g1, g2, by lia, g4, ?_⟩
      · lia
      · rw [g3]; exact Sub.cons rfl (Sub.cons rfl (Sub.cons rfl (Sub.cons rfl (Sub.cons rfl (Sub.cons rfl (Sub.cons rfl Sub.nil))))))
    · simp only [decide_eq_false_iff_not] at hd
      refine ⟨fun hd => by simp at hd, fun _ => ?_⟩
      repeat ktr_rel
      exact fin (.inr (by lia))
  · simp only [decide_eq_false_iff_not] at hc
    refine ⟨fun hd => by simp at hd, fun _ => ?_⟩
    repeat ktr_rel
    exact fin (.inl (by lia))


end
section
variable {prog : Program} {w : World} {h₁ : Heap} {A : Around} {hp : Hp} {Q : AV → Hp → Prop}
theorem set_mid {pre wd post : List Int} {k n : Nat} {x : Int} (hp : pre.length = n) (hk : k < wd.length) : (pre ++ wd ++ post).set (n + k) x = pre ++ wd.set k x ++ post := by
  rw [List.append_assoc, List.set_append_right _ _ (by lia), List.append_assoc, List.set_append_left _ _ (by lia)]
  congr 3; lia
theorem get_mid {pre wd post : List Int} {k n : Nat} {x : Int} (hp : pre.length = n) (hx : wd[k]? = some x) : (pre ++ wd ++ post)[n + k]? = some x := by
  have hk := (List.getElem?_eq_some_iff.mp hx).1
  rw [List.append_assoc, List.getElem?_append_right (by lia), List.getElem?_append_left (by lia)]
  rw [show n + k - pre.length = k by lia]; exact hx
theorem take_away_spec (C : CX prog w (hd.heap_1 w.params) h₁) (rm : Room A 1) {a b : Addr} {pre wd post bs : List Int} {W at' : Nat} {limb : Int} (hW0 : 0 < W) (hW : W ≤ 7) (ha : hp a = some (.list (iL (pre ++ wd ++ post)))) (hb : hp b = some (.list (iL bs)))
    (la : (pre ++ wd ++ post).length ≤ 5000) (hat : pre.length = at') (lw : wd.length = bs.length + 1) (l0 : 0 ≤ limb) (l1 : limb < 2 ^ W) (rw' : Lim (2 ^ W) wd) (rb : Lim (2 ^ W) bs) (hab : a ≠ b)
    (h : ∀ wd' r hp', (∀ c o, c ≠ a → hp c = some o → hp' c = some o) → hp' a = some (.list (iL (pre ++ wd' ++ post))) → wd'.length = wd.length → Lim (2 ^ W) wd' → (r = 0 ∨ r = 1) → val (2 ^ W) wd' = val (2 ^ W) wd - limb * val (2 ^ W) bs + r * (2 ^ W) ^ (bs.length + 1) → Q (.int r) hp') :
    CL prog w h₁ A (.ref 165) [.ref a, .ref b, .int limb, .int at', .int W] hp Q := by
  refine CV_fn C (xs := ["rest", "b", "limb", "at", "w"]) rfl rfl (by have := rm.hd; omega) rfl ?_ rfl (by decide) (by decide) rfl rfl rfl ?_
  · rintro (_ | ⟨x0, _ | ⟨x1, _ | ⟨x2, _ | ⟨x3, _ | ⟨x4, _ | ⟨x5, r⟩⟩⟩⟩⟩⟩) hv <;> first | rfl | cases hv
  intro L
  have hh : A.handled = none := rm.hh
  have hB := B128 hW
  have hB0 := pw_pos W
  have hB1 : (1 : Int) < 2 ^ W := by
    have : (2 : Int) ^ 1 ≤ 2 ^ W := pow_mono (by decide) hW0
    lia
  have la2 : pre.length + wd.length + post.length ≤ 5000 := by simpa [Nat.add_assoc] using la
  repeat ktr_rel
  refine SV_AsgSw2 (by exact hh) ?_
  repeat ktr_rel
  rw [Int.toNat_natCast, Int.one_mul]
  refine ⟨by simp, fun t ht => ⟨t, _, _, rfl, up_same _ _ _, ?_⟩⟩
  have l1' := Les.refl.new ht (o := .tup [AV.int 0, AV.int (2 ^ W)])
  generalize (up hp t (.tup [AV.int 0, AV.int (2 ^ W)])) = hp1 at l1'
  repeat ktr_rel
  refine SV_For_enum (by exact hh) (fun i m hp' => (∀ c o, c ≠ a → hp c = some o → hp' c = some o) ∧ i ≤ bs.length ∧ ∃ (ws : List Int) (c : Int), hp' a = some (.list (iL (pre ++ ws ++ post))) ∧ ws.length = wd.length ∧ Lim (2 ^ W) ws ∧ 0 ≤ c ∧ c ≤ 2 ^ W ∧ val (2 ^ W) ws = val (2 ^ W) wd - limb * val (2 ^ W) (bs.take i) + c * (2 ^ W) ^ i ∧
      Sub [("carry", .int c), ("base", .int (2 ^ W)), ("rest", .ref a), ("b", .ref b), ("limb", .int limb), ("at", .int at'), ("w", .int W)] m) (fun R hR => EV_ty C (by tb_rel) (by tb_rel) (by decide) hR) ?_
  repeat ktr_rel
  refine ⟨b, iL bs, rfl, fun i m hp' j => j.1 _ _ hab.symm hb, ⟨fun c o _ e => l1' _ _ e, Nat.zero_le _, wd, 0, l1' _ _ ha, rfl, rw', Int.le_refl _, by lia, by simp [val], Sub.cons rfl (Sub.cons rfl (Sub.cons rfl (Sub.cons rfl (Sub.cons rfl (Sub.cons rfl (Sub.cons rfl Sub.nil))))))⟩, ?_, ?_⟩
  · rintro i m hp' v' hv' ⟨le, _, ws, c, hw1, hw2, hw3, c0, c1, hwv, hs⟩
    obtain ⟨y, hy, rfl⟩ : ∃ y, bs[i]? = some y ∧ v' = .int y := by
      rw [List.getElem?_map] at hv'
      obtain ⟨x, e1, e2⟩ := Option.map_eq_some_iff.mp hv'
      exact ⟨x, e1, e2.symm⟩
    have hi : i < bs.length := (List.getElem?_eq_some_iff.mp hy).1
    have hyr := rb.get hy
    have ho : ws[i]? = some ws[i] := List.getElem?_eq_getElem (by lia)
    generalize ws[i] = o at ho
    have hor := hw3.get ho
    have tt := tk_turn (o := o) (y := y) (B := 2 ^ W) hwv
    obtain ⟨b1, b2, b3, b4, b5⟩ := tk_rng hB1 l0 l1 hyr.1 hyr.2 c0 c1 hor.1 hor.2
    refine SV_at hs.put.put Les.refl ?_
    repeat ktr_rel
    refine sub_il hw1 (at' + i) (by lia) (by lia) (get_mid hat ho) ?_
    dsimp only at tt
    rw [← fmodP hB0, ← fdivQ hB0] at tt
    rw [← fmodP hB0] at b1 b2
    rw [← fmodP hB0, ← fdivQ hB0] at b3 b4
    repeat ktr_rel
    generalize o - (limb * y + c).fmod (2 ^ W) = here at *
    refine EV_IfJ (here < 0) 1 0 (by repeat ktr_rel
                                     exact ⟨rfl, rfl⟩) (fun _ => by repeat ktr_rel
                                                                    exact ⟨rfl, rfl⟩) (fun _ => by repeat ktr_rel
                                                                                                   exact ⟨rfl, rfl⟩) ?_
    repeat ktr_rel
    refine EV_IfJ (here < 0) (here + 2 ^ W) here (by repeat ktr_rel
                                                     exact ⟨rfl, rfl⟩) (fun _ => by repeat ktr_rel
                                                                                    exact ⟨rfl, rfl⟩) (fun _ => by repeat ktr_rel
                                                                                                                   exact ⟨rfl, rfl⟩) ?_
    repeat ktr_rel
    refine ⟨a, rfl, by rw [hw1]; nofun, fun vi vv e1' e2' => set_list hw1 (by lia) (by simp [hat] at *; lia) (by lia) e1' e2' ?_⟩
    have ein : ((at' : Int) + (i : Int)).toNat = at' + i := by lia
    rw [iL_set, ein, set_mid hat (by lia)]
    repeat ktr_rel
    refine ⟨fun p ob e q => ?_, by lia, _, _, up_same _ _ _, by simp [hw2], hw3.set b1 b2, b3, b4, ?_, Sub.cons rfl (Sub.cons rfl (Sub.cons rfl (Sub.cons rfl (Sub.cons rfl (Sub.cons rfl (Sub.cons rfl Sub.nil))))))⟩
    · rw [up_ne e]; exact le p ob e q
    · rw [val_set _ _ _ _ _ ho, val_take_succ _ _ hy, Int.pow_succ]; exact tt
  · rintro m hp' ⟨le, _, ws, c, hw1, hw2, hw3, c0, c1, hwv, hs⟩
    rw [iL_len] at hwv
    rw [List.take_length] at hwv
    have hb' : hp' b = some (.list (iL bs)) := le _ _ hab.symm hb
    have ho : ws[bs.length]? = some ws[bs.length] := List.getElem?_eq_getElem (by lia)
    generalize ws[bs.length] = o at ho
    have hor := hw3.get ho
    refine SV_at hs Les.refl ?_
    repeat ktr_rel
    rw [iL_len]
    refine sub_il hw1 (at' + bs.length) (by lia) (by lia) (get_mid hat ho) ?_
    repeat ktr_rel
    generalize hhe : o - c = here at *
    refine EV_IfJ (here < 0) (here + 2 ^ W) here (by repeat ktr_rel
                                                     exact ⟨rfl, rfl⟩) (fun _ => by repeat ktr_rel
                                                                                    exact ⟨rfl, rfl⟩) (fun _ => by repeat ktr_rel
                                                                                                                   exact ⟨rfl, rfl⟩) ?_
    repeat ktr_rel
    rw [iL_len]
    refine ⟨a, rfl, by rw [hw1]; nofun, fun vi vv e1' e2' => set_list hw1 (by lia) (by simp [hat] at *; lia) (by lia) e1' e2' ?_⟩
    have ein : ((at' : Int) + (bs.length : Int)).toNat = at' + bs.length := by lia
    rw [iL_set, ein, set_mid hat (by lia)]
    repeat ktr_rel
    refine EV_IfJ (here < 0) 1 0 (by repeat ktr_rel
                                     exact ⟨rfl, rfl⟩) (fun _ => by repeat ktr_rel
                                                                    exact ⟨rfl, rfl⟩) (fun _ => by repeat ktr_rel
                                                                                                   exact ⟨rfl, rfl⟩) ?_
    refine h _ _ _ (fun p ob e q => ?_) (up_same _ _ _) (by simp [hw2]) (hw3.set (x := if here < 0 then here + 2 ^ W else here) (by split <;> lia) (by split <;> lia)) (by split <;> simp) ?_
    · rw [up_ne e]; exact le p ob e q
    · rw [val_set _ _ _ _ _ ho, hwv, Int.pow_succ]
      split
      · subst hhe; grind
      · subst hhe; grind

theorem put_back_spec (C : CX prog w (hd.heap_1 w.params) h₁) (rm : Room A 1) {a b : Addr} {pre wd post bs : List Int} {W at' : Nat} (hW0 : 0 < W) (hW : W ≤ 7) (ha : hp a = some (.list (iL (pre ++ wd ++ post)))) (hb : hp b = some (.list (iL bs)))
    (la : (pre ++ wd ++ post).length ≤ 5000) (hat : pre.length = at') (lw : wd.length = bs.length + 1) (rw' : Lim (2 ^ W) wd) (rb : Lim (2 ^ W) bs) (hab : a ≠ b)
    (h : ∀ wd' r hp', (∀ c o, c ≠ a → hp c = some o → hp' c = some o) → hp' a = some (.list (iL (pre ++ wd' ++ post))) → wd'.length = wd.length → Lim (2 ^ W) wd' → (r = 0 ∨ r = 1) → val (2 ^ W) wd' = val (2 ^ W) wd + val (2 ^ W) bs - r * (2 ^ W) ^ (bs.length + 1) → Q .none hp') :
    CL prog w h₁ A (.ref 172) [.ref a, .ref b, .int at', .int W] hp Q := by
  refine CV_fn C (xs := ["rest", "b", "at", "w"]) rfl rfl (by have := rm.hd; omega) rfl ?_ rfl (by decide) (by decide) rfl rfl rfl ?_
  · rintro (_ | ⟨x0, _ | ⟨x1, _ | ⟨x2, _ | ⟨x3, _ | ⟨x4, r⟩⟩⟩⟩⟩) hv <;> first | rfl | cases hv
  intro L
  have hh : A.handled = none := rm.hh
  have hB := B128 hW
  have hB0 := pw_pos W
  have hB1 : (1 : Int) < 2 ^ W := by
    have : (2 : Int) ^ 1 ≤ 2 ^ W := pow_mono (by decide) hW0
    lia
  have la2 : pre.length + wd.length + post.length ≤ 5000 := by simpa [Nat.add_assoc] using la
  repeat ktr_rel
  refine SV_AsgSw2 (by exact hh) ?_
  repeat ktr_rel
  rw [Int.toNat_natCast, Int.one_mul]
  refine ⟨by simp, fun t ht => ⟨t, _, _, rfl, up_same _ _ _, ?_⟩⟩
  have l1' := Les.refl.new ht (o := .tup [AV.int 0, AV.int (2 ^ W - 1)])
  generalize (up hp t (.tup [AV.int 0, AV.int (2 ^ W - 1)])) = hp1 at l1'
  repeat ktr_rel
  refine SV_For_enum (by exact hh) (fun i m hp' => (∀ c o, c ≠ a → hp c = some o → hp' c = some o) ∧ i ≤ bs.length ∧ ∃ (ws : List Int) (c : Int), hp' a = some (.list (iL (pre ++ ws ++ post))) ∧ ws.length = wd.length ∧ Lim (2 ^ W) ws ∧ 0 ≤ c ∧ c ≤ 1 ∧ val (2 ^ W) ws = val (2 ^ W) wd + val (2 ^ W) (bs.take i) - c * (2 ^ W) ^ i ∧
      Sub [("carry", .int c), ("mask", .int (2 ^ W - 1)), ("rest", .ref a), ("b", .ref b), ("at", .int at'), ("w", .int W)] m) (fun R hR => EV_ty C (by tb_rel) (by tb_rel) (by decide) hR) ?_
  repeat ktr_rel
  refine ⟨b, iL bs, rfl, fun i m hp' j => j.1 _ _ hab.symm hb, ⟨fun c o _ e => l1' _ _ e, Nat.zero_le _, wd, 0, l1' _ _ ha, rfl, rw', Int.le_refl _, by lia, by simp [val], Sub.cons rfl (Sub.cons rfl (Sub.cons rfl (Sub.cons rfl (Sub.cons rfl (Sub.cons rfl Sub.nil)))))⟩, ?_, ?_⟩
  · rintro i m hp' v' hv' ⟨le, _, ws, c, hw1, hw2, hw3, c0, c1, hwv, hs⟩
    obtain ⟨y, hy, rfl⟩ : ∃ y, bs[i]? = some y ∧ v' = .int y := by
      rw [List.getElem?_map] at hv'
      obtain ⟨x, e1, e2⟩ := Option.map_eq_some_iff.mp hv'
      exact ⟨x, e1, e2.symm⟩
    have hi : i < bs.length := (List.getElem?_eq_some_iff.mp hy).1
    have hyr := rb.get hy
    have ho : ws[i]? = some ws[i] := List.getElem?_eq_getElem (by lia)
    generalize ws[i] = o at ho
    have hor := hw3.get ho
    have tt := pb_turn (o := o) (y := y) (B := 2 ^ W) hwv
    refine SV_at hs.put.put Les.refl ?_
    repeat ktr_rel
    refine sub_il hw1 (at' + i) (by lia) (by lia) (get_mid hat ho) ?_
    repeat ktr_rel
    rw [and_mask]
    refine ⟨a, rfl, by rw [hw1]; nofun, fun vi vv e1' e2' => set_list hw1 (by lia) (by simp [hat] at *; lia) (by lia) e1' e2' ?_⟩
    have ein : ((at' : Int) + (i : Int)).toNat = at' + i := by lia
    rw [iL_set, ein, set_mid hat (by lia)]
    repeat ktr_rel
    rw [Int.toNat_natCast, fdivP]
    have q0 : 0 ≤ (c + (o + y)) / 2 ^ W := Int.ediv_nonneg (by lia) (by lia)
    have q1 : (c + (o + y)) / 2 ^ W < 2 := ediv_lt_of hB0 (by lia)
    refine ⟨fun p ob e q => ?_, by lia, _, _, up_same _ _ _, by simp [hw2], hw3.set (Int.emod_nonneg _ (by lia)) (Int.emod_lt_of_pos _ hB0), q0, by lia, ?_, Sub.cons rfl (Sub.cons rfl (Sub.cons rfl (Sub.cons rfl (Sub.cons rfl (Sub.cons rfl Sub.nil)))))⟩
    · rw [up_ne e]; exact le p ob e q
    · rw [val_set _ _ _ _ _ ho, val_take_succ _ _ hy, Int.pow_succ]; exact tt
  · rintro m hp' ⟨le, _, ws, c, hw1, hw2, hw3, c0, c1, hwv, hs⟩
    rw [iL_len] at hwv
    rw [List.take_length] at hwv
    have hb' : hp' b = some (.list (iL bs)) := le _ _ hab.symm hb
    have ho : ws[bs.length]? = some ws[bs.length] := List.getElem?_eq_getElem (by lia)
    generalize ws[bs.length] = o at ho
    have hor := hw3.get ho
    refine SV_at hs Les.refl ?_
    repeat ktr_rel
    rw [iL_len]
    refine sub_il hw1 (at' + bs.length) (by lia) (by lia) (get_mid hat ho) ?_
    repeat ktr_rel
    rw [and_mask, iL_len]
    refine ⟨a, rfl, by rw [hw1]; nofun, fun vi vv e1' e2' => set_list hw1 (by lia) (by simp [hat] at *; lia) (by lia) e1' e2' ?_⟩
    have ein : ((at' : Int) + (bs.length : Int)).toNat = at' + bs.length := by lia
    rw [iL_set, ein, set_mid hat (by lia)]
    repeat ktr_rel
    have q0 : 0 ≤ (o + c) / 2 ^ W := Int.ediv_nonneg (by lia) (by lia)
    have q1 : (o + c) / 2 ^ W < 2 := ediv_lt_of hB0 (by lia)
    have em := Int.emod_add_mul_ediv (o + c) (2 ^ W)
    refine h _ ((o + c) / 2 ^ W) _ (fun p ob e q => ?_) (up_same _ _ _) (by simp [hw2]) (hw3.set (Int.emod_nonneg _ (by lia)) (Int.emod_lt_of_pos _ hB0)) (by lia) ?_
    · rw [up_ne e]; exact le p ob e q
    · rw [val_set _ _ _ _ _ ho, hwv, Int.pow_succ]
      grind

end
section
variable {prog : Program} {w : World} {h₁ : Heap} {A : Around} {hp : Hp} {Q : AV → Hp → Prop}
theorem divide_rows_spec (C : CX prog w (hd.heap_1 w.params) h₁) (rm : Room A 2) {a b : Addr} {rs bs : List Int} {W N n : Nat} (hW0 : 0 < W) (hW : W ≤ 7) (ha : hp a = some (.list (iL rs))) (hb : hp b = some (.list (iL bs)))
    (la : rs.length = N + (n + 2)) (ls : rs.length ≤ 4000) (lb : bs.length = n + 2) (ra : Lim (2 ^ W) rs) (rb : Lim (2 ^ W) bs) (hV : (2 ^ W) ^ (n + 1) ≤ val (2 ^ W) bs) (htop : val (2 ^ W) (rs.drop N) < val (2 ^ W) bs) (hab : a ≠ b)
    (h : ∀ q qs rs' hp', (∀ c o, c ≠ a → hp c = some o → hp' c = some o) → hp' a = some (.list (iL rs')) → rs'.length = rs.length → Lim (2 ^ W) rs' → val (2 ^ W) rs' = val (2 ^ W) rs % val (2 ^ W) bs → hp' q = some (.list (iL qs)) → qs.length ≤ 4000 → Q (.ref q) hp') :
    CL prog w h₁ A (.ref 179) [.ref a, .ref b, .int W] hp Q := by
  refine CV_fn C (xs := ["rest", "b", "w"]) rfl rfl (by have := rm.hd; omega) rfl ?_ rfl (by decide) (by decide) rfl rfl rfl ?_
  · rintro (_ | ⟨x0, _ | ⟨x1, _ | ⟨x2, _ | ⟨x3, r⟩⟩⟩⟩) hv <;> first | rfl | cases hv
  intro L
  have hh : A.handled = none := rm.hh
  have hB := B128 hW
  have hB0 := pw_pos W
  have hB1 : (1 : Int) < 2 ^ W := by
    have : (2 : Int) ^ 1 ≤ 2 ^ W := pow_mono (by decide) hW0
    lia
  have hVu := (val_range hB0 rb).2
  rw [lb] at hVu
  have hVp : 0 < val (2 ^ W) bs := by
    have : 0 < ((2 : Int) ^ W) ^ (n + 1) := Int.pow_pos hB0
    lia
  -- the divisor's two top limbs
  have hv1 : bs[n + 1]? = some bs[n + 1] := List.getElem?_eq_getElem (by lia)
  have hv2 : bs[n]? = some bs[n] := List.getElem?_eq_getElem (by lia)
  generalize bs[n + 1] = v1 at hv1
  generalize bs[n] = v2 at hv2
  have rv1 := rb.get hv1
  have rv2 := rb.get hv2
  have eV := two_top (B := 2 ^ W) lb hv1 hv2
  have pP : 0 < ((2 : Int) ^ W) ^ n := Int.pow_pos hB0
  have rV' := val_range hB0 (rb.take n)
  rw [List.length_take, Nat.min_eq_left (by lia)] at rV'
  have v1p : 1 ≤ v1 := top_pos hB0 pP rv1.1 rv2.2 rV'.2 eV (by rw [Int.pow_succ, Int.mul_comm] at hV; exact hV)
  repeat ktr_rel
  rw [iL_len, lb]
  refine ⟨by simp, fun z hz => ?_⟩
  repeat ktr_rel
  rw [iL_len, la]
  refine op_rep (up_same _ _ _) (by lia) (by lia) fun f hf => ?_
  have etn : (((N + (n + 2) : Nat) : Int) - ((n + 2 : Nat) : Int)).toNat = N := by lia
  rw [iL_rep, etn]
  have l1 := Les.refl.new (o := .list [AV.int 0]) hz
  have hf2 : hp f = none := Les.none l1 hf
  have l2 := l1.new (o := .list (iL (List.replicate N 0))) hf2
  have hff : (up (up hp z (.list [AV.int 0])) f (.list (iL (List.replicate N 0)))) f = some (.list (iL (List.replicate N 0))) := by ke_reads
  generalize (up (up hp z (.list [AV.int 0])) f (.list (iL (List.replicate N 0)))) = hp0 at l2 hff
  have fa : f ≠ a := (ne_of_none ha hf2).symm
  have fb : f ≠ b := (ne_of_none hb hf2).symm
  repeat ktr_rel
  refine SV_For_rng (by exact hh) (fun i m hp' => (∀ c o, c ≠ a → hp c = some o → hp' c = some o) ∧ i ≤ N ∧ (∃ (rs' : List Int), hp' a = some (.list (iL rs')) ∧ rs'.length = N + (n + 2) ∧ Lim (2 ^ W) rs' ∧ val (2 ^ W) (rs'.drop (N - i)) < val (2 ^ W) bs ∧ val (2 ^ W) rs' % val (2 ^ W) bs = val (2 ^ W) rs % val (2 ^ W) bs) ∧
      (∃ qs : List Int, hp' f = some (.list (iL qs)) ∧ qs.length = N) ∧ Sub [("quotient", .ref f), ("size", .int (n + 2 : Nat)), ("rest", .ref a), ("b", .ref b), ("w", .int W)] m) ?_
  repeat ktr_rel
  rw [iL_len, la]
  refine cl_range3 (by decide) (by decide) fun r hr => ⟨_, _, _, _, rfl, up_same _ _ _, sm_down (by lia) (by lia) (by lia) (by decide) (by decide), by rw [rs_down (by lia)]; lia,
    ⟨fun c o _ e => (l2.new (Les.none l2 hr)) _ _ e, Nat.zero_le _, ⟨rs, by ke_reads, la, ra, by rw [Nat.sub_zero]; exact htop, rfl⟩, ⟨_, by ke_reads, by simp⟩, Sub.cons rfl (Sub.cons rfl (Sub.cons rfl (Sub.cons rfl (Sub.cons rfl Sub.nil))))⟩, ?_, ?_⟩
  · rintro i m hp' hi ⟨le, _, ⟨rs', hr1, hr2, hr3, hr4, hr5⟩, ⟨qs, hq1, hq2⟩, hs⟩
    rw [rs_down (by lia)] at hi
    obtain ⟨k, hk⟩ : ∃ k : Nat, N = i + k + 1 := ⟨N - i - 1, by lia⟩
    have e1 : ((N + (n + 2) : Nat) : Int) - ((n + 2 : Nat) : Int) - 1 + (i : Int) * -1 = (k : Int) := by lia
    have e2 : N - i = k + 1 := by lia
    have e3 : N - (i + 1) = k := by lia
    rw [e1]
    rw [e2] at hr4
    have hb' : hp' b = some (.list (iL bs)) := le _ _ hab.symm hb
    -- the window
    have hx : rs'[k]? = some rs'[k] := List.getElem?_eq_getElem (by lia)
    generalize rs'[k] = x at hx
    have hxr := hr3.get hx
    have hpre : (rs'.take k).length = k := by rw [List.length_take]; lia
    have hwd : ((rs'.drop k).take (n + 3)).length = n + 3 := by rw [List.length_take, List.length_drop]; lia
    have eall : rs' = rs'.take k ++ (rs'.drop k).take (n + 3) ++ rs'.drop (k + (n + 3)) := by
      rw [List.append_assoc, ← List.drop_drop, List.take_append_drop, List.take_append_drop]
    have lwd : Lim (2 ^ W) ((rs'.drop k).take (n + 3)) := (hr3.drop k).take _
    have lpost : Lim (2 ^ W) (rs'.drop (k + (n + 3))) := hr3.drop _
    have edrop : val (2 ^ W) (rs'.drop k) = val (2 ^ W) ((rs'.drop k).take (n + 3)) + (2 ^ W) ^ (n + 3) * val (2 ^ W) (rs'.drop (k + (n + 3))) := by
      have := val_append (2 ^ W) ((rs'.drop k).take (n + 3)) ((rs'.drop k).drop (n + 3))
      rw [List.take_append_drop, hwd, List.drop_drop] at this
      exact this
    rw [val_drop _ _ hx] at edrop
    obtain ⟨z1, z2, z3⟩ := post_zero (n := n + 2) hB0 hxr.2 hVu hr4 edrop (val_range hB0 lwd).1 (val_range hB0 lpost).1
    have g0 : rs'[k + n]? = some rs'[k + n] := List.getElem?_eq_getElem (by lia)
    have g1 : rs'[k + n + 1]? = some rs'[k + n + 1] := List.getElem?_eq_getElem (by lia)
    have g2 : rs'[k + n + 2]? = some rs'[k + n + 2] := List.getElem?_eq_getElem (by lia)
    generalize rs'[k + n] = t0 at g0
    generalize rs'[k + n + 1] = t1 at g1
    generalize rs'[k + n + 2] = t2 at g2
    have w0 : ((rs'.drop k).take (n + 3))[n]? = some t0 := by rw [List.getElem?_take_of_lt (by lia), List.getElem?_drop]; exact g0
    have w1 : ((rs'.drop k).take (n + 3))[n + 1]? = some t1 := by rw [List.getElem?_take_of_lt (by lia), List.getElem?_drop]; exact g1
    have w2 : ((rs'.drop k).take (n + 3))[n + 2]? = some t2 := by rw [List.getElem?_take_of_lt (by lia), List.getElem?_drop]; exact g2
    have eU := three_top (B := 2 ^ W) hwd w0 w1 w2
    have rU' := val_range hB0 (lwd.take n)
    rw [List.length_take, Nat.min_eq_left (by lia)] at rU'
    have etop := take3 g0 g1 g2
    generalize hwdd : (rs'.drop k).take (n + 3) = wd at *
    generalize hprd : rs'.take k = pre at *
    generalize hpod : rs'.drop (k + (n + 3)) = post at *
    refine SV_at hs.put Les.refl ?_
    repeat ktr_rel
    have ea : (k : Int) + ((n + 2 : Nat) : Int) - 2 = ((k + n : Nat) : Int) := by lia
    have eb : (k : Int) + ((n + 2 : Nat) : Int) + 1 = ((k + n + 3 : Nat) : Int) := by lia
    rw [ea, eb]
    refine ⟨a, _, _, rfl, hr1, by rw [iL_len]; lia, sl_run (by lia) (by rw [iL_len]; lia), fun tp htp => ?_⟩
    have e3' : k + n + 3 - (k + n) = 3 := by lia
    rw [iL_drop, e3', iL_take, etop]
    have lt := Les.refl.new htp (o := .list (iL [t0, t1, t2]))
    have tpa : tp ≠ a := (ne_of_none hr1 htp).symm
    have tpb : tp ≠ b := (ne_of_none hb' htp).symm
    have tpf : tp ≠ f := (ne_of_none hq1 htp).symm
    repeat ktr_rel
    refine sub_il (ns := bs) (by ke_reads) (n + 1) (by lia) (by lia) hv1 ?_
    repeat ktr_rel
    refine sub_il (ns := bs) (by ke_reads) n (by lia) (by lia) hv2 ?_
    repeat ktr_rel
    refine guessed_spec C (rm.deeper.less (by lia)) hW0 hW (up_same _ _ _) (hr3.get g0) (hr3.get g1) (hr3.get g2) ⟨by lia, rv1.2⟩ rv2 fun q hp2 le2 q0 q1 gg ge => ?_
    have kn := knuth hB0 pP v1p rv2.1 rV'.1 rV'.2 rU'.1 rU'.2 eV eU z3 q0 q1 gg ge
    have hr1' : hp2 a = some (.list (iL (pre ++ wd ++ post))) := by rw [← eall]; exact le2 _ _ (by ke_reads)
    have hb2 : hp2 b = some (.list (iL bs)) := le2 _ _ (by ke_reads)
    have hq2' : hp2 f = some (.list (iL qs)) := le2 _ _ (by ke_reads)
    have le3 : ∀ c o, c ≠ a → hp c = some o → hp2 c = some o := fun c o e1 e2 => le2 _ _ (lt _ _ (le c o e1 e2))
    have lall : (pre ++ wd ++ post).length ≤ 5000 := by rw [← eall]; lia
    iterate 2 ktr_rel
    refine SV_cons (SV.mono (Q := fun fl m' hp'' => fl = .next ∧ (∀ c o, c ≠ a → hp c = some o → hp'' c = some o) ∧ (∃ wd' : List Int, hp'' a = some (.list (iL (pre ++ wd' ++ post))) ∧ wd'.length = n + 3 ∧ Lim (2 ^ W) wd' ∧ val (2 ^ W) wd' < val (2 ^ W) bs ∧ ∃ j : Int, val (2 ^ W) wd' = val (2 ^ W) wd - j * val (2 ^ W) bs) ∧ hp'' f = some (.list (iL qs)) ∧
        ∃ lb : Int, Sub [("limb", .int lb), ("at", .int k), ("quotient", .ref f), ("size", .int (n + 2 : Nat)), ("rest", .ref a), ("b", .ref b), ("w", .int W)] m') ?_ ?_)
    · repeat ktr_rel
      refine take_away_spec C (rm.deeper.less (by lia)) hW0 hW hr1' hb2 lall hpre (by lia) q0 q1 lwd rb hab fun wd' rr hp3 le4 a1 a2 a3 a4 a5 => ?_
      rw [lb] at a5
      have wr := val_range hB0 a3
      rw [a2, hwd] at wr
      have hb3 : hp3 b = some (.list (iL bs)) := le4 _ _ hab.symm hb2
      have hq3 : hp3 f = some (.list (iL qs)) := le4 _ _ fa hq2'
      have e33 : n + 2 + 1 = n + 3 := rfl
      rw [e33] at a5
      repeat ktr_rel
      refine ⟨fun hc => ?_, fun hc => ?_⟩
      · simp only [decide_eq_true_eq] at hc
        subst hc
        repeat ktr_rel
        have lall' : (pre ++ wd' ++ post).length ≤ 5000 := by
          have := lall
          simp only [List.length_append] at this ⊢
          lia
        refine put_back_spec C (rm.deeper.less (by lia)) hW0 hW a1 hb3 lall' hpre (by lia) a3 rb hab fun wd'' r2 hp4 le5 c1 c2 c3 c4 c5 => ?_
        rw [lb, e33] at c5
        have wr2 := val_range hB0 c3
        rw [c2, a2, hwd] at wr2
        refine ⟨rfl, ?_⟩
        repeat ktr_rel
        refine ⟨rfl, fun c o e1 e2 => le5 _ _ e1 (le4 _ _ e1 (le3 _ _ e1 e2)), ⟨wd'', c1, by rw [c2, a2, hwd], c3, ?_, q - 1, ?_⟩, le5 _ _ fa hq3, q - 1, Sub.cons rfl (Sub.cons rfl (Sub.cons rfl (Sub.cons rfl (Sub.cons rfl (Sub.cons rfl (Sub.cons rfl Sub.nil))))))⟩
        · rcases c4 with rfl | rfl <;> lia
        · have : (q - 1) * val (2 ^ W) bs = q * val (2 ^ W) bs - val (2 ^ W) bs := by grind
          rcases c4 with rfl | rfl <;> lia
      · simp only [decide_eq_false_iff_not] at hc
        have hr0 : rr = 0 := by lia
        subst hr0
        repeat ktr_rel
        refine ⟨rfl, fun c o e1 e2 => le4 _ _ e1 (le3 _ _ e1 e2), ⟨wd', a1, by rw [a2, hwd], a3, ?_, q, ?_⟩, hq3, q, Sub.cons rfl (Sub.cons rfl (Sub.cons rfl (Sub.cons rfl (Sub.cons rfl (Sub.cons rfl (Sub.cons rfl Sub.nil))))))⟩
        · lia
        · lia
    · rintro _ m' hp'' ⟨rfl, le6, ⟨wd', a1, a2, a3, a4, j, a5⟩, hq6, lb', hs6⟩
      refine SV_at hs6 Les.refl ?_
      repeat ktr_rel
      refine ⟨f, rfl, by rw [hq6]; nofun, fun vi vv e1' e2' => set_list hq6 (by lia) (by rw [iL_len]; lia) (by lia) e1' e2' ?_⟩
      rw [iL_set]
      repeat ktr_rel
      refine ⟨fun c o e1 e2 => ?_, by lia, ⟨pre ++ wd' ++ post, ?_, ?_, ?_, ?_, ?_⟩, ⟨_, up_same _ _ _, by rw [List.length_set]; lia⟩, ?_⟩
      · rw [up_ne (ne_of_none e2 hf2)]; exact le6 _ _ e1 e2
      · rw [up_ne fa.symm]; exact a1
      · have h1 : (pre ++ wd ++ post).length = N + (n + 2) := by rw [← eall]; exact hr2
        simp only [List.length_append] at h1 ⊢
        lia
      · have h1 : Lim (2 ^ W) (pre ++ wd ++ post) := by rw [← eall]; exact hr3
        have lp : Lim (2 ^ W) pre := fun y hy => h1 y (List.mem_append_left _ (List.mem_append_left _ hy))
        exact (lp.append a3).append lpost
      · rw [e3, List.append_assoc, List.drop_left' hpre, val_append, z1]
        simpa using a4
      · rw [← hr5]
        have h1 : val (2 ^ W) rs' = val (2 ^ W) (pre ++ wd ++ post) := congrArg (val (2 ^ W)) eall
        have h2 : val (2 ^ W) (pre ++ wd' ++ post) = val (2 ^ W) rs' + val (2 ^ W) bs * (-j * (2 ^ W) ^ k) := by
          rw [h1, List.append_assoc, List.append_assoc, val_append, val_append, val_append, val_append, a5, hpre, hwd, a2]
          grind
        rw [h2, Int.add_mul_emod_self_left]
      · exact Sub.cons rfl (Sub.cons rfl (Sub.cons rfl (Sub.cons rfl (Sub.cons rfl Sub.nil))))
  · rintro m hp' ⟨le, _, ⟨rs', hr1, hr2, hr3, hr4, hr5⟩, ⟨qs, hq1, hq2⟩, hs⟩
    rw [rs_down (by lia)] at hr4
    have e : N - (((N + (n + 2) : Nat) : Int) - ((n + 2 : Nat) : Int) - 1 - -1).toNat = 0 := by lia
    rw [e, List.drop_zero] at hr4
    rw [Int.emod_eq_of_lt (val_range hB0 hr3).1 hr4] at hr5
    refine SV_at hs Les.refl ?_
    repeat ktr_rel
    exact h f qs rs' _ le hr1 (by lia) hr3 hr5 hq1 (by lia)

end
section
variable {prog : Program} {w : World} {h₁ : Heap} {A : Around} {hp : Hp} {Q : AV → Hp → Prop}
theorem divrem_small_spec (C : CX prog w (hd.heap_1 w.params) h₁) (rm : Room A 3) {a b : Addr} {as : List Int} {W : Nat} {d : Int} (hW0 : 0 < W) (hW : W ≤ 7) (ha : hp a = some (.list (iL as))) (hb : hp b = some (.list (iL [d]))) (la : as.length ≤ 5000)
    (ra : Lim (2 ^ W) as) (h0 : 0 < d) (h1 : d < 2 ^ W) {v : Nat} (hv : val (2 ^ W) as % d = v) (h : ∀ t q r hp', Les hp hp' → hp r = none → hp' t = some (.tup [.ref q, .ref r]) → hp' r = some (.list (iL (lim W v))) → Q (.ref t) hp') :
    CL prog w h₁ A (.ref 151) [.ref a, .ref b, .int W] hp Q := by
  refine CV_fn C (xs := ["a", "b", "w"]) rfl rfl (by have := rm.hd; omega) rfl ?_ rfl (by decide) (by decide) rfl rfl rfl ?_
  · rintro (_ | ⟨x0, _ | ⟨x1, _ | ⟨x2, _ | ⟨x3, r⟩⟩⟩⟩) hv <;> first | rfl | cases hv
  intro L
  have hh : A.handled = none := rm.hh
  refine SV_cons (SV_AsgTup2 (by exact hh) ?_)
  repeat ktr_rel
  refine sub_il hb 0 rfl (by decide) rfl ?_
  repeat ktr_rel
  refine divrem_limb_spec C (rm.deeper.less (by lia)) hW ha la ra h0 (by lia) fun t f fs hp1 le ht hf => ⟨t, _, _, rfl, ht, ?_⟩
  rw [hv]
  have vb : (v : Int) < 2 ^ W := by
    have := Int.emod_lt_of_pos (val (2 ^ W) as) h0
    lia
  repeat ktr_rel
  refine EV_IfExp ?_
  repeat ktr_rel
  refine ⟨fun hc => ?_, fun hc => ?_⟩
  · simp only [decide_eq_true_eq] at hc
    repeat ktr_rel
    refine ⟨by simp, fun r hr => ?_⟩
    repeat ktr_rel
    refine ⟨by simp, fun t' ht' => ?_⟩
    have e : lim W v = [(v : Int)] := by
      have hv2 : v < 2 ^ W := by exact_mod_cast vb
      rw [lim_pos hW0 (by lia), Nat.mod_eq_of_lt hv2, Nat.div_eq_of_lt hv2, lim_zero]
    exact h t' f r _ ((le.new (Les.none le hr)).new (Les.none (le.new (Les.none le hr)) ht')) (Les.none le hr) (up_same _ _ _) (by rw [e]; ke_reads)
  · simp only [decide_eq_false_iff_not] at hc
    have hv0 : v = 0 := by lia
    subst hv0
    repeat ktr_rel
    refine ⟨by simp, fun r hr => ?_⟩
    repeat ktr_rel
    refine ⟨by simp, fun t' ht' => ?_⟩
    exact h t' f r _ ((le.new (Les.none le hr)).new (Les.none (le.new (Les.none le hr)) ht')) (Les.none le hr) (up_same _ _ _) (by rw [lim_zero]; ke_reads)

theorem bitsF_one {x : Int} {W : Int} : bitsF [x] W = (Builtin.Int.intBits x : Int) := by
  unfold bitsF; simp

theorem divrem_school_spec (C : CX prog w (hd.heap_1 w.params) h₁) (rm : Room A 4) {a b : Addr} {W u v : Nat} (hW0 : 0 < W) (hW : W ≤ 7) (ha : hp a = some (.list (iL (lim W u)))) (hb : hp b = some (.list (iL (lim W v)))) (la : (lim W u).length ≤ 1500) (lb : (lim W v).length ≤ 1500) (hv : 0 < v)
    (h : ∀ t q r hp', Les hp hp' → hp r = none → hp' t = some (.tup [.ref q, .ref r]) → hp' r = some (.list (iL (lim W (u % v)))) → Q (.ref t) hp') :
    CL prog w h₁ A (.ref 186) [.ref a, .ref b, .int W] hp Q := by
  refine CV_fn C (xs := ["a", "b", "w"]) rfl rfl (by have := rm.hd; omega) rfl ?_ rfl (by decide) (by decide) rfl rfl rfl ?_
  · rintro (_ | ⟨x0, _ | ⟨x1, _ | ⟨x2, _ | ⟨x3, r⟩⟩⟩⟩) hv <;> first | rfl | cases hv
  intro L
  have hh : A.handled = none := rm.hh
  have hB := B128 hW
  have hB0 := pw_pos W
  have hB1 : (1 : Int) < 2 ^ W := by
    have : (2 : Int) ^ 1 ≤ 2 ^ W := pow_mono (by decide) hW0
    lia
  have lne := lim_ne_nil hW0 hv
  have lpos : 0 < (lim W v).length := List.length_pos_iff.mpr lne
  have ru := Lim.lim (W := W) u
  have rv := Lim.lim (W := W) v
  have eu := val_lim hW0 u
  have ev := val_lim hW0 v
  repeat ktr_rel
  rw [iL_len]
  refine ⟨fun q => by simp only [decide_eq_true_eq] at q; lia, fun _ => ?_⟩
  repeat ktr_rel
  refine compare_spec C (rm.deeper.less (by lia)) (B := 2 ^ W) (by lia) ha hb (by lia) (by lia) ru rv (lim_nm u) (lim_nm v) fun c hp1 le1 hc => ?_
  rw [eu, ev] at hc
  repeat ktr_rel
  refine ⟨fun hlt => ?_, fun hge => ?_⟩
  · simp only [decide_eq_true_eq] at hlt
    have huv : u < v := by have := hc.mp hlt; lia
    repeat ktr_rel
    refine ⟨by simp, fun q hq => ?_⟩
    have hq1 := Les.none le1 hq
    have l2 := le1.new hq1 (o := .list [])
    repeat ktr_rel
    refine ⟨a, _, _, rfl, l2 _ _ ha, by rw [iL_len]; lia, sl_all, fun r hr => ?_⟩
    have l3 := l2.new (Les.none l2 hr) (o := .list (iL (lim W u)))
    repeat ktr_rel
    refine ⟨by simp, fun t ht => ?_⟩
    exact h t q r _ (l3.new (Les.none l3 ht)) (Les.none l2 hr) (up_same _ _ _) (by rw [Nat.mod_eq_of_lt huv]; ke_reads)
  · simp only [decide_eq_false_iff_not] at hge
    have huv : v ≤ u := by
      refine Nat.le_of_not_lt fun q => hge (hc.mpr ?_)
      lia
    have ha1 := le1 _ _ ha
    have hb1 := le1 _ _ hb
    have hlen : (lim W v).length ≤ (lim W u).length := len_mono (by lia) ru rv (lim_nm v) (by rw [eu, ev]; lia)
    repeat ktr_rel
    rw [iL_len]
    refine ⟨fun h1 => ?_, fun h1 => ?_⟩
    · simp only [decide_eq_true_eq] at h1
      obtain ⟨d, hd⟩ : ∃ d, lim W v = [d] := List.length_eq_one_iff.mp (by lia)
      have hdv : d = v := by rw [hd, val_cons, val_nil] at ev; lia
      have hdr := rv d (by rw [hd]; exact List.mem_singleton.mpr rfl)
      rw [hd] at hb1
      subst hdv
      repeat ktr_rel
      exact divrem_small_spec C (rm.deeper.less (by lia)) hW0 hW ha1 hb1 (by lia) ru (by lia) hdr.2 (v := u % v) (by rw [eu]; simp) fun t q r hp2 l2 hr2 ht2 hr3 => h t q r hp2 (le1.trans l2) (Les.none le1 hr2) ht2 hr3
    · simp only [decide_eq_false_iff_not] at h1
      obtain ⟨n, hn⟩ : ∃ n, (lim W v).length = n + 2 := ⟨(lim W v).length - 2, by lia⟩
      obtain ⟨x, hx⟩ : ∃ x, (lim W v).getLast? = some x := ⟨_, List.getLast?_eq_some_getLast lne⟩
      have hxm : x ∈ lim W v := List.mem_of_getLast? hx
      have hxr := rv x hxm
      have hx0 := lim_nm v x hx
      obtain ⟨k, hk1, hk2, hk3, hk4⟩ := bits_of (W := W) (x := x) (by lia) hxr.2
      repeat ktr_rel
      refine sub_last hb1 (v := .int x) (by simp [hx]) ?_
      repeat ktr_rel
      refine ⟨by simp, fun z hz => ?_⟩
      have l2 := le1.new (Les.none le1 hz) (o := .list [AV.int x])
      repeat ktr_rel
      refine bits_spec C (rm.deeper.less (by lia)) (ns := [x]) (up_same _ _ _) (by simp) (by lia) ?_
      rw [bitsF_one, hk1]
      have esh : (W : Int) - (k : Int) = ((W - k : Nat) : Int) := by lia
      repeat ktr_rel
      rw [esh]
      have hsW : W - k < W := by lia
      generalize hs : W - k = s at *
      repeat ktr_rel
      refine shift_left_spec C (rm.deeper.less (by lia)) hW hsW (as := lim W v) (by ke_reads) (by lia) lne rv fun dv ds hp2 le2 hdn hd1 hd2 hd3 hd4 => ?_
      have l3 := l2.trans le2
      have hlb := last_bound rv hx hk3 hk4
      rw [hs] at hlb
      have hds : ds.length = n + 2 := by
        rcases hd4 with q | ⟨_, q⟩
        · lia
        · rw [hd3] at q; lia
      repeat ktr_rel
      have ha2 : hp2 a = some (.list (iL (lim W u))) := l3 _ _ ha
      refine shift_left_spec C (rm.deeper.less (by lia)) hW hsW (as := lim W u) ha2 (by lia) (lim_ne_nil hW0 (by lia)) ru fun ua us hp3 le3 hun hu1 hu2 hu3 hu4 => ?_
      have l4 := l3.trans le3
      repeat ktr_rel
      refine ⟨by simp, fun z2 hz2 => ?_⟩
      have hz2' : up hp3 z2 (.list [AV.int 0]) ua = some (.list (iL us)) := by ke_reads
      have ha3 : up hp3 z2 (.list [AV.int 0]) a = some (.list (iL (lim W u))) := by
        have := l4 _ _ ha
        ke_reads
      repeat ktr_rel
      rw [iL_len, iL_len]
      have l5 := l4.new (Les.none l4 hz2) (o := .list [AV.int 0])
      refine op_rep (up_same _ _ _) (by lia) (by lia) fun z4 hz4 => ?_
      obtain ⟨j, hj⟩ : ∃ j : Nat, (((lim W u).length : Int) + 1 - (us.length : Int)).toNat = j ∧ us.length + j = (lim W u).length + 1 := ⟨_, rfl, by lia⟩
      rw [hj.1, iL_rep]
      have l6 := l5.new (Les.none l5 hz4) (o := .list (iL (List.replicate j 0)))
      refine op_cat (xs := iL us) (ys := iL (List.replicate j 0)) (by ke_reads) (by ke_reads) (by rw [iL_len, iL_len]; simp; lia) fun rc hrc => ?_
      rw [iL_app]
      have l7 := l6.new (Les.none l6 hrc) (o := .list (iL (us ++ List.replicate j 0)))
      have hdv7 : up (up (up hp3 z2 (.list [AV.int 0])) z4 (.list (iL (List.replicate j 0)))) rc (.list (iL (us ++ List.replicate j 0))) dv = some (.list (iL ds)) := by
        have := le3 _ _ hd1
        ke_reads
      have hrc7 : up (up (up hp3 z2 (.list [AV.int 0])) z4 (.list (iL (List.replicate j 0)))) rc (.list (iL (us ++ List.replicate j 0))) rc = some (.list (iL (us ++ List.replicate j 0))) := up_same _ _ _
      have hne7 : rc ≠ dv := by
        refine (ne_of_none (hp := up (up hp3 z2 (.list [AV.int 0])) z4 (.list (iL (List.replicate j 0)))) (o := .list (iL ds)) ?_ hrc).symm
        have := le3 _ _ hd1
        ke_reads
      have hrc0 : hp rc = none := Les.none l6 hrc
      generalize up (up (up hp3 z2 (.list [AV.int 0])) z4 (.list (iL (List.replicate j 0)))) rc (.list (iL (us ++ List.replicate j 0))) = hp7 at *
      repeat ktr_rel
      have p1 := pw_pos s
      have lRS : (us ++ List.replicate j 0).length = ((lim W u).length + 1 - (n + 2)) + (n + 2) := by simp; lia
      have rRS : Lim (2 ^ W) (us ++ List.replicate j 0) := hu2.append (Lim.rep hB0 j)
      have vRS : val (2 ^ W) (us ++ List.replicate j 0) = (u : Int) * 2 ^ s := by rw [val_append, val_replicate, hu3, eu]; simp
      have vds : val (2 ^ W) ds = (v : Int) * 2 ^ s := by rw [hd3, ev]
      have low := nm_lower hB0 rv (lim_nm v) lne
      rw [ev, hn] at low
      have low1 : ((2 : Int) ^ W) ^ (n + 1) ≤ v := low
      have low2 : ((2 : Int) ^ W) ^ (n + 1) * 2 ^ s ≤ v * 2 ^ s := Int.mul_le_mul_of_nonneg_right low1 (by lia)
      have low3 : (v : Int) * 1 ≤ v * 2 ^ s := Int.mul_le_mul_of_nonneg_left (by lia) (by lia)
      have ub := (val_range hB0 ru).2
      rw [eu] at ub
      have db := drop_bound (n := n + 2) (N := (lim W u).length + 1 - (n + 2)) hB0 p1 rRS lRS (by lia) (by lia) ub vRS
      have db2 : n + 2 - 1 = n + 1 := rfl
      rw [db2] at db
      refine divide_rows_spec C (rm.deeper.less (by lia)) hW0 hW hrc7 hdv7 lRS (by lia) hds rRS hd2 (by rw [vds]; lia) (by rw [vds]; lia) hne7 fun q qs rs' hp8 le8 hr1 hr2 hr3 hr4 hq1 hq2 => ?_
      rw [vRS, vds] at hr4
      have hr5 : val (2 ^ W) rs' = ((u % v * 2 ^ s : Nat) : Int) := by
        rw [hr4]
        have : (u : Int) * 2 ^ s % (v * 2 ^ s) = ((u * 2 ^ s % (v * 2 ^ s) : Nat) : Int) := by simp
        rw [this, Nat.mul_mod_mul_right]
      have l8 : Les hp hp8 := fun c o e => le8 _ _ (fun q => by rw [q, hrc0] at e; cases e) (l7 _ _ e)
      have hrl : rs'.length ≤ 4000 := by lia
      repeat ktr_rel
      refine normal_spec C (rm.deeper.less (by lia)) hq1 (by lia) fun nq hnq => ?_
      have l9 := l8.new (Les.none l8 hnq) (o := .list (iL (nrm qs)))
      repeat ktr_rel
      refine normal_spec C (rm.deeper.less (by lia)) (ns := rs') (by ke_reads) (by lia) fun nr hnr => ?_
      have l10 := l9.new (Les.none l9 hnr) (o := .list (iL (nrm rs')))
      repeat ktr_rel
      refine shift_right_spec C (rm.deeper.less (by lia)) hW hsW (as := nrm rs') (v := u % v * 2 ^ s) (up_same _ _ _) (Nat.le_trans (nrm_length rs') (by lia)) hr3.nrm (by rw [val_nrm, hr5]) fun r hp11 l11 hr11 hr12 => ?_
      rw [Nat.mul_div_cancel _ (npw_pos s)] at hr12
      have l12 := l10.trans l11
      repeat ktr_rel
      refine ⟨by simp, fun t ht => ?_⟩
      exact h t nq r _ (l12.new (Les.none l12 ht)) (Les.none l10 hr11) (up_same _ _ _) (by ke_reads)

end
section
variable {prog : Program} {w : World} {h₁ : Heap} {A : Around} {hp : Hp} {Q : AV → Hp → Prop}
theorem window_spec (C : CX prog w (hd.heap_1 w.params) h₁) (rm : Room A 2) {a : Addr} {W E top size : Nat} (hW0 : 0 < W) (hW : W ≤ 7) (ha : hp a = some (.list (iL (lim W E)))) (hn : (lim W E).length ≤ 10000) (ht : top ≤ 10000) (hs0 : 1 ≤ size) (hs1 : size ≤ 1000)
    (hb : E / 2 ^ top % 2 = 1)
    (h : ∀ t last hp', Les hp hp' → last ≤ top → top + 1 ≤ last + size → E / 2 ^ last % 2 = 1 → (∀ l, top + 1 ≤ l + size → l < last → E / 2 ^ l % 2 = 0) →
      hp' t = some (.tup [.int ((E / 2 ^ last % 2 ^ (top + 1 - last) : Nat) : Int), .int ((top + 1 - last : Nat) : Int)]) → Q (.ref t) hp') :
    CL prog w h₁ A (.ref 102) [.ref a, .int top, .int size, .int W] hp Q := by
  refine CV_fn C (xs := ["e", "top", "size", "w"]) rfl rfl (by have := rm.hd; omega) rfl ?_ rfl (by decide) (by decide) rfl rfl rfl ?_
  · rintro (_ | ⟨x0, _ | ⟨x1, _ | ⟨x2, _ | ⟨x3, _ | ⟨x4, r⟩⟩⟩⟩⟩) hv <;> first | rfl | cases hv
  intro L
  have hh : A.handled = none := rm.hh
  repeat ktr_rel
  have el : (if (0 : Int) > (top : Int) - (size : Int) + 1 then (0 : Int) else (top : Int) - (size : Int) + 1) = ((top + 1 - size : Nat) : Int) := by split <;> lia
  rw [el]
  repeat ktr_rel
  refine SV_While (fun n m hp' => hp' = hp ∧ ∃ l : Nat, n = top - l ∧ l ≤ top ∧ top + 1 - size ≤ l ∧ (∀ l', top + 1 - size ≤ l' → l' < l → E / 2 ^ l' % 2 = 0) ∧ Sub [("last", .int l), ("e", .ref a), ("top", .int top), ("size", .int size), ("w", .int W)] m) (top - (top + 1 - size))
    ⟨rfl, top + 1 - size, rfl, by lia, Nat.le_refl _, fun l' h1 h2 => by lia, Sub.cons rfl (Sub.cons rfl (Sub.cons rfl (Sub.cons rfl (Sub.cons rfl Sub.nil))))⟩ ?_
  rintro n m hp' ⟨rfl, l, rfl, hl, hl0, hz, hs⟩
  refine ⟨_, _, hs, Les.refl, ?_⟩
  repeat ktr_rel
  refine bit_spec C (rm.deeper.less (by lia)) hW0 (by lia) ha hn ?_
  repeat ktr_rel
  refine ⟨fun hc => ?_, fun hc => ?_⟩
  · simp only [decide_eq_true_eq] at hc
    have hbl : E / 2 ^ l % 2 = 0 := by lia
    have hlt : l ≠ top := by intro q; subst q; lia
    repeat ktr_rel
    refine ⟨top - (l + 1), by lia, rfl, l + 1, rfl, by lia, by lia, fun l' h1 h2 => ?_, Sub.cons ?_ (Sub.cons rfl (Sub.cons rfl (Sub.cons rfl (Sub.cons rfl Sub.nil))))⟩
    · by_cases q : l' = l
      · subst q; exact hbl
      · exact hz l' h1 (by lia)
    · show some (AV.int _) = _
      rw [Int.natCast_add]; rfl
  · simp only [decide_eq_false_iff_not] at hc
    have hbl : E / 2 ^ l % 2 = 1 := by lia
    repeat ktr_rel
    refine SV_For_rng (by exact hh) (fun i m hp'' => Les hp' hp'' ∧ i ≤ top + 1 - l ∧ Sub [("value", .int ((E / 2 ^ (top + 1 - i) % 2 ^ i : Nat) : Int)), ("last", .int l), ("e", .ref a), ("top", .int top), ("size", .int size), ("w", .int W)] m) ?_
    repeat ktr_rel
    refine cl_range3 (by decide) (by decide) fun r hr => ⟨_, _, _, _, rfl, up_same _ _ _, sm_down (by lia) (by lia) (by lia) (by lia) (by lia), by rw [rs_down (by lia)]; lia, ⟨Les.refl.new hr, Nat.zero_le _, by rw [Nat.pow_zero, Nat.mod_one]; exact Sub.cons rfl (Sub.cons rfl (Sub.cons rfl (Sub.cons rfl (Sub.cons rfl (Sub.cons rfl Sub.nil)))))⟩, ?_, ?_⟩
    · rintro i m hp'' hi ⟨le, _, hs⟩
      rw [rs_down (by lia)] at hi
      have e1 : (top : Int) + (i : Int) * -1 = ((top - i : Nat) : Int) := by lia
      rw [e1]
      refine SV_at hs.put Les.refl ?_
      repeat ktr_rel
      refine bit_spec C (rm.deeper.less (by lia)) hW0 (by lia) (le _ _ ha) hn ?_
      repeat ktr_rel
      refine ⟨le, by lia, Sub.cons ?_ (Sub.cons rfl (Sub.cons rfl (Sub.cons rfl (Sub.cons rfl (Sub.cons rfl Sub.nil)))))⟩
      have vb := val_bit E top i (by lia)
      have e2 : top + 1 - (i + 1) = top - i := by lia
      rw [e2, vb]
      show some (AV.int _) = _
      rw [Int.natCast_add, Int.natCast_mul]; rfl
    · rintro m hp'' ⟨le, _, hs⟩
      rw [rs_down (by lia)] at hs
      have e1 : ((top : Int) - ((l : Int) - 1)).toNat = top + 1 - l := by lia
      have e2 : top + 1 - (top + 1 - l) = l := by lia
      rw [e1, e2] at hs
      refine SV_at hs Les.refl ?_
      repeat ktr_rel
      refine ⟨by simp, fun t ht => ?_⟩
      refine h t l _ (le.new (Les.none le ht)) hl (by lia) hbl (fun l' h1 h2 => hz l' (by lia) h2) ?_
      rw [up_same]
      have e3 : (top : Int) - (l : Int) + 1 = ((top + 1 - l : Nat) : Int) := by lia
      rw [e3]

theorem odd_spec (C : CX prog w (hd.heap_1 w.params) h₁) {n : Nat} (rm : Room A (n + 1)) {tf : Addr} {M : Addr → Prop} {Rep : Hp → AV → Nat → Prop} {Inv : Hp → List (Nat × Nat) → Prop} (T : Tm prog w h₁ n tf M Rep Inv) {bv : AV} {size : Nat} (hs0 : 1 ≤ size) (hs1 : size ≤ 4)
    (hi : Inv hp []) (hb : Rep hp bv 1)
    (h : ∀ f tbl hpx lg, hpx f = none → LesM M hp hpx → Inv hpx lg → ValidLog lg → lg.length = 2 ^ (size - 1) → (∀ k, k < 2 ^ (size - 1) → ∃ x, tbl[k]? = some x ∧ Rep hpx x (2 * k + 1) ∧ 2 * k + 1 ∈ avail lg) → Q (.ref f) (up hpx f (.list tbl))) :
    CL prog w h₁ A (.ref 95) [bv, .int size, .ref tf] hp Q := by
  refine CV_fn C (xs := ["base", "size", "times"]) rfl rfl (by have := rm.hd; omega) rfl ?_ rfl (by decide) (by decide) rfl rfl rfl ?_
  · rintro (_ | ⟨x0, _ | ⟨x1, _ | ⟨x2, _ | ⟨x3, r⟩⟩⟩⟩) hv <;> first | rfl | cases hv
  intro L
  have hh : A.handled = none := rm.hh
  have p0 : 1 ≤ 2 ^ (size - 1) := npw_pos _
  have p1 : 2 ^ (size - 1) ≤ 8 := by
    have : ∀ k, k ≤ 3 → 2 ^ k ≤ 8 := by decide
    exact this _ (by lia)
  refine SV_cons (SV_AsgSw2 (by exact hh) ?_)
  repeat ktr_rel
  refine ⟨by simp, fun f hf => ?_⟩
  repeat ktr_rel
  refine CW_T T (rm.deeper.less (by lia)) hf hi hb hb (by decide) (by decide) (by decide) ?_ fun sq hpy l1 hfy hr' hiy => ?_
  · intro R hR
    repeat ktr_rel
    all_goals exact hR
  repeat ktr_rel
  refine ⟨by simp, fun t ht => ⟨t, _, _, rfl, up_same _ _ _, ?_⟩⟩
  have lq : Les (up hpy f (.list [bv])) (up (up hpy f (.list [bv])) t (.tup [.ref f, sq])) := Les.refl.new ht
  generalize up (up hpy f (.list [bv])) t (.tup [.ref f, sq]) = hpz at lq
  repeat ktr_rel
  refine SV_For_rng (by exact hh) (fun i m hp' => i < 2 ^ (size - 1) ∧ ∃ hpx tbl lg, Les (up hpx f (.list tbl)) hp' ∧ hpx f = none ∧ LesM M hp hpx ∧ Inv hpx lg ∧ ValidLog lg ∧ lg.length = i + 1 ∧ tbl.length = i + 1 ∧ (∀ k, k ≤ i → ∃ x, tbl[k]? = some x ∧ Rep hpx x (2 * k + 1) ∧ 2 * k + 1 ∈ avail lg) ∧ Rep hpx sq 2 ∧ 2 ∈ avail lg ∧
    Sub [("found", .ref f), ("square", sq), ("times", .ref tf)] m) ?_
  repeat ktr_rel
  have e1 : (1 : Int) * 2 ^ ((size : Int) - 1).toNat - 1 = ((2 ^ (size - 1) - 1 : Nat) : Int) := by
    have : ((size : Int) - 1).toNat = size - 1 := by lia
    rw [this, Int.one_mul, ← cast_pw]; lia
  rw [e1]
  refine cl_range1 fun r hr => ⟨_, _, _, _, rfl, up_same _ _ _, sm_up (by lia) (by lia) (by lia) (by lia), by rw [rs_up (by lia)]; lia, ⟨by lia, hpy, [bv], [(1, 1)], lq.trans (Les.refl.new hr), hfy, l1, hiy, .snoc .nil (by simp [avail]) (by simp [avail]), rfl, rfl, fun k hk => ⟨bv, ?_, ?_, ?_⟩, hr', by simp [avail], Sub.cons rfl (Sub.cons rfl (Sub.cons rfl Sub.nil))⟩, ?_, ?_⟩
  · have : k = 0 := by lia
    subst this; rfl
  · have : k = 0 := by lia
    subst this; exact T.rep _ _ _ _ l1 hb
  · have : k = 0 := by lia
    subst this; simp [avail]
  · rintro i m hp' hi' ⟨_, hpx, tbl, lg, le, hfx, lm, hin, hvl, hlen, htl, htab, hsq, h2, hs⟩
    obtain ⟨hpw, rfl, hfw, lw⟩ := les_split hfx le
    rw [rs_up (by lia)] at hi'
    have hin := T.inv _ _ _ lw hin
    obtain ⟨x, hx1, hx2, hx3⟩ := htab i (Nat.le_refl _)
    have hx2 := T.rep _ _ _ _ (les_m lw) hx2
    have hsq := T.rep _ _ _ _ (les_m lw) hsq
    refine SV_at hs.put Les.refl ?_
    repeat ktr_rel
    refine ⟨_, _, rfl, up_same _ _ _, ?_⟩
    repeat ktr_rel
    refine CW_T T (rm.deeper.less (by lia)) hfw hin hx2 hsq (by lia) (by decide) (by lia) ?_ fun r hpv lv hfv hr hiv => ?_
    · intro R hR
      repeat ktr_rel
      refine sub_last (up_same _ _ _) (by rw [List.getLast?_eq_getElem?, htl]; exact hx1) ?_
      repeat ktr_rel
      all_goals exact hR
    refine cl_append (up_same _ _ _) (by lia) ⟨rfl, ?_⟩
    rw [up_up]
    repeat ktr_rel
    refine ⟨by lia, hpv, tbl ++ [r], _, Les.refl, hfv, (lm.trans (les_m lw)).trans lv, hiv, hvl.snoc hx3 h2, by simp [hlen], by simp [htl], fun k hk => ?_, T.rep _ _ _ _ lv hsq, avail_mono h2, Sub.cons rfl (Sub.cons rfl (Sub.cons rfl Sub.nil))⟩
    by_cases q : k = i + 1
    · subst q
      refine ⟨r, by rw [List.getElem?_append_right (by lia), htl]; simp, ?_, ?_⟩
      · have : 2 * (i + 1) + 1 = 2 * i + 1 + 2 := by lia
        rw [this]; exact hr
      · have : 2 * (i + 1) + 1 = 2 * i + 1 + 2 := by lia
        rw [this]; exact avail_new
    · obtain ⟨y, y1, y2, y3⟩ := htab k (by lia)
      exact ⟨y, by rw [List.getElem?_append_left (by lia)]; exact y1, T.rep _ _ _ _ ((les_m lw).trans lv) y2, avail_mono y3⟩
  · rintro m hp' ⟨_, hpx, tbl, lg, le, hfx, lm, hin, hvl, hlen, htl, htab, hsq, h2, hs⟩
    rw [rs_up (by lia)] at hlen htl htab
    have e2 : (((2 ^ (size - 1) - 1 : Nat) : Int) - 0).toNat + 1 = 2 ^ (size - 1) := by lia
    rw [e2] at hlen
    refine SV_at hs le ?_
    repeat ktr_rel
    exact h f tbl hpx lg hfx lm hin hvl hlen fun k hk => htab k (by lia)

end
section
variable {prog : Program} {w : World} {h₁ : Heap} {A : Around} {hp : Hp} {Q : AV → Hp → Prop}
theorem by_windows_spec (C : CX prog w (hd.heap_1 w.params) h₁) {n : Nat} (rm : Room A (n + 5)) {tf : Addr} {M : Addr → Prop} {Rep : Hp → AV → Nat → Prop} {Inv : Hp → List (Nat × Nat) → Prop} (T : Tm prog w h₁ n tf M Rep Inv) {bv one : AV} {size W E : Nat} {ae : Addr} (hs0 : 1 ≤ size) (hs1 : size ≤ 4) (hW0 : 0 < W) (hW : W ≤ 7)
    (hae : hp ae = some (.list (iL (lim W E)))) (hn : (lim W E).length ≤ 1000) (hEb : E ≤ 10000) (hM : ¬ M ae)
    (hi : Inv hp []) (hb : Rep hp bv 1) (hone : E = 0 → Rep hp one 0)
    (h : ∀ r hp' lg, LesM M hp hp' → Rep hp' r E → Inv hp' lg → ValidLog lg →
      (E = 0 → lg = []) → (0 < E → E ∈ avail lg ∧ ∃ nb wn, 2 ^ nb ≤ E ∧ E < 2 ^ (nb + 1) ∧ lg.length + 2 ≤ 2 ^ (size - 1) + (nb + 1) + wn ∧ wn * size ≤ nb + size) → Q r hp') :
    CL prog w h₁ A (.ref 109) [bv, .ref ae, .int size, .int W, one, .ref tf] hp Q := by
  refine CV_fn C (xs := ["base", "e", "size", "w", "one", "times"]) rfl rfl (by have := rm.hd; omega) rfl ?_ rfl (by decide) (by decide) rfl rfl rfl ?_
  · rintro (_ | ⟨x0, _ | ⟨x1, _ | ⟨x2, _ | ⟨x3, _ | ⟨x4, _ | ⟨x5, _ | ⟨x6, r⟩⟩⟩⟩⟩⟩⟩) hv <;> first | rfl | cases hv
  intro L
  have hh : A.handled = none := rm.hh
  repeat ktr_rel
  refine ⟨by simp, fun b hb0 => ?_⟩
  have l0 : Les hp (up hp b (.list [])) := Les.refl.new hb0
  have hbe : up hp b (.list []) b = some (.list (iL [])) := up_same _ _ _
  generalize up hp b (.list []) = hp1 at l0 hbe
  have hae1 := l0 _ _ hae
  repeat ktr_rel
  refine cm_leq (by show A.units + 3 + 64 < cLine; have := rm.hu; lia) hae1 hbe ?_
  refine ⟨_, rfl, fun hc => ?_, fun hc => ?_⟩
  · have hE0 : E = 0 := by
      simp only [decide_eq_true_eq] at hc
      by_cases q : E = 0
      · exact q
      · exact absurd hc (lim_ne_nil hW0 (by lia))
    repeat ktr_rel
    refine h _ _ [] (les_m l0) ?_ (T.inv _ _ _ l0 hi) .nil (fun _ => rfl) (fun q => by lia)
    have := T.rep _ _ _ _ (les_m l0) (hone hE0)
    rw [hE0]; exact this
  have hE : 0 < E := by
    simp only [decide_eq_false_iff_not] at hc
    by_cases q : E = 0
    · exact absurd (by rw [q, lim_zero]) hc
    · lia
  ktr_rel
  refine SV_cons (SV_AsgSw2 (by exact hh) ?_)
  repeat ktr_rel
  refine odd_spec C (rm.deeper.less (by lia)) T hs0 hs1 (T.inv _ _ _ l0 hi) (T.rep _ _ _ _ (les_m l0) hb) fun tb tbl hpx lg0 hfx lm hin hvl hlen htab => ?_
  have lm := (les_m l0).trans lm
  repeat ktr_rel
  refine ⟨by simp, fun t ht => ⟨t, _, _, rfl, up_same _ _ _, ?_⟩⟩
  have lq : Les (up hpx tb (.list tbl)) (up (up hpx tb (.list tbl)) t (.tup [.ref tb, .none])) := Les.refl.new ht
  generalize up (up hpx tb (.list tbl)) t (.tup [.ref tb, .none]) = hpz at lq
  have hax : hpx ae = some (.list (iL (lim W E))) := lm _ _ hM hae
  have haz : hpz ae = some (.list (iL (lim W E))) := lq _ _ (by rw [up_ne (ne_of_none hax hfx)]; exact hax)
  repeat ktr_rel
  refine bits_spec C (rm.deeper.less (by lia)) haz (by lia) (by lia) ?_
  obtain ⟨x, hx⟩ : ∃ x, (lim W E).getLast? = some x := by
    cases q : (lim W E).getLast? with
    | none => exact absurd (List.getLast?_eq_none_iff.mp q) (lim_ne_nil hW0 hE)
    | some x => exact ⟨x, rfl⟩
  obtain ⟨nb, eb, hl, hu⟩ := bits_lim hW0 hE hx
  have ebits : bitsF (lim W E) W = ((nb + 1 : Nat) : Int) := by unfold bitsF; rw [hx]; exact eb
  have hnb : nb ≤ 10000 := Nat.le_trans (Nat.le_of_lt Nat.lt_two_pow_self) (Nat.le_trans hl hEb)
  have p0 : 1 ≤ 2 ^ (size - 1) := npw_pos _
  have p1 : 2 ^ (size - 1) ≤ 8 := by
    have : ∀ k, k ≤ 3 → 2 ^ k ≤ 8 := by decide
    exact this _ (by lia)
  have hpos : ∀ k, k ≤ nb → 0 < E / 2 ^ k := fun k hk => Nat.div_pos (Nat.le_trans (Nat.pow_le_pow_right (by decide) hk) hl) (npw_pos _)
  rw [ebits]
  repeat ktr_rel
  refine (SV.mono (Q := fun fl m' hp' => ∃ lg hpx fv, fl = AF.next ∧ hp' = up hpx tb (.list tbl) ∧ hpx tb = none ∧ LesM M hp hpx ∧ Inv hpx lg ∧ ValidLog lg ∧ Rep hpx fv E ∧ E ∈ avail lg ∧ (∃ wn, lg.length + 2 ≤ 2 ^ (size - 1) + (nb + 1) + wn ∧ wn * size ≤ nb + size) ∧ Sub [("found", fv)] m') ?_ ?_)
  · refine SV_While (fun k m hp' => k ≤ nb + 1 ∧ ∃ fv hpx lg, Les (up hpx tb (.list tbl)) hp' ∧ hpx tb = none ∧ LesM M hp hpx ∧ Inv hpx lg ∧ ValidLog lg ∧ (∀ j, j < 2 ^ (size - 1) → ∃ x, tbl[j]? = some x ∧ Rep hpx x (2 * j + 1) ∧ 2 * j + 1 ∈ avail lg) ∧
      ((k = nb + 1 ∧ fv = .none ∧ lg.length = 2 ^ (size - 1)) ∨ (k ≤ nb ∧ Rep hpx fv (E / 2 ^ k) ∧ E / 2 ^ k ∈ avail lg ∧ ∃ wn p, lg.length + k + 2 ≤ 2 ^ (size - 1) + (nb + 1) + wn ∧ wn * size + p ≤ nb + 1 + size ∧ 1 ≤ p ∧ ∀ l, p ≤ l + size → l < k → E / 2 ^ l % 2 = 0)) ∧
      Sub [("spot", .int ((k : Int) - 1)), ("found", fv), ("table", .ref tb), ("e", .ref ae), ("size", .int size), ("w", .int W), ("times", .ref tf)] m) (nb + 1)
      ⟨Nat.le_refl _, .none, hpx, lg0, lq, hfx, lm, hin, hvl, htab, .inl ⟨rfl, rfl, hlen⟩, Sub.cons rfl (Sub.cons rfl (Sub.cons rfl (Sub.cons rfl (Sub.cons rfl (Sub.cons rfl (Sub.cons rfl Sub.nil))))))⟩ ?_
    clear hvl hlen htab lq haz hax hfx lm hin
    rintro k m hp' ⟨hk, fv, hpx, lg, le, hfx, lm, hin, hvl, htab, hcase, hs⟩
    obtain ⟨hpw, rfl, hfw, lw⟩ := les_split hfx le
    have hin := T.inv _ _ _ lw hin
    have lm := lm.trans (les_m lw)
    have htab : ∀ j, j < 2 ^ (size - 1) → ∃ x, tbl[j]? = some x ∧ Rep hpw x (2 * j + 1) ∧ 2 * j + 1 ∈ avail lg := fun j hj => by
      obtain ⟨x, a, b, c⟩ := htab j hj
      exact ⟨x, a, T.rep _ _ _ _ (les_m lw) b, c⟩
    have hcase := hcase.imp id (fun ⟨a, b, c⟩ => And.intro a (And.intro (T.rep _ _ _ _ (les_m lw) b) c))
    refine ⟨_, _, hs, Les.refl, ?_⟩
    repeat ktr_rel
    refine ⟨fun hc => ?_, fun hc => ?_⟩
    · have hk0 : 0 < k := by simp only [decide_eq_true_eq] at hc; lia
      obtain ⟨j, rfl⟩ : ∃ j, k = j + 1 := ⟨k - 1, by lia⟩
      have ej : (((j + 1 : Nat) : Int)) - 1 = (j : Int) := by lia
      rw [ej]
      have haw : up hpw tb (.list tbl) ae = some (.list (iL (lim W E))) := by
        have : hpw ae = some (.list (iL (lim W E))) := lm _ _ hM hae
        rw [up_ne (ne_of_none this hfw)]; exact this
      repeat ktr_rel
      refine bit_spec C (rm.deeper.less (by lia)) hW0 (by lia) haw (by lia) ?_
      repeat ktr_rel
      refine ⟨fun hc => ?_, fun hc => ?_⟩
      · have hz : E / 2 ^ j % 2 = 0 := by simp only [decide_eq_true_eq] at hc; lia
        rcases hcase with ⟨q, rfl, hlg⟩ | ⟨hk, hr, hav, wn, p, c1, c2, c3, c4⟩
        · have : j = nb := by lia
          subst this
          rw [top_bit hl hu] at hz; cases hz
        · repeat ktr_rel
          refine CW_T T (rm.deeper.less (by lia)) hfw hin hr hr (hpos _ hk) (hpos _ hk) (by have := Nat.le_mul_of_pos_right wn hs0; lia) ?_ fun r hpv lv hfv hrr hiv => ?_
          · intro R hR
            repeat ktr_rel
            all_goals exact hR
          repeat ktr_rel
          have e2 : E / 2 ^ j = E / 2 ^ (j + 1) + E / 2 ^ (j + 1) := by have := half_step E j; lia
          refine ⟨j, by lia, by lia, r, hpv, _, Les.refl, hfv, lm.trans lv, hiv, hvl.snoc hav hav, fun i hi => ?_, .inr ⟨by lia, e2 ▸ hrr, e2 ▸ avail_new, wn, p, ?_, c2, c3, fun l h1 h2 => c4 l h1 (by lia)⟩, Sub.cons rfl (Sub.cons rfl (Sub.cons rfl (Sub.cons rfl (Sub.cons rfl (Sub.cons rfl (Sub.cons rfl Sub.nil))))))⟩
          · obtain ⟨x, a, b, c⟩ := htab i hi
            exact ⟨x, a, T.rep _ _ _ _ lv b, avail_mono c⟩
          · rw [List.length_append]; simp only [List.length_singleton]; lia
      · have hone : E / 2 ^ j % 2 = 1 := by simp only [decide_eq_false_iff_not] at hc; lia
        ktr_rel
        refine SV_cons (SV_AsgTup2 (by exact hh) ?_)
        repeat ktr_rel
        refine window_spec C (rm.deeper.less (by lia)) hW0 hW haw (by lia) (by lia) hs0 (by lia) hone fun t last hp'' le2 hl1 hl2 hl3 hl4 ht => ⟨t, _, _, rfl, ht, ?_⟩
        obtain ⟨hpv, rfl, hfv, lv⟩ := les_split hfw le2
        clear ht haw
        have hin := T.inv _ _ _ lv hin
        have lm := lm.trans (les_m lv)
        have htab : ∀ j, j < 2 ^ (size - 1) → ∃ x, tbl[j]? = some x ∧ Rep hpv x (2 * j + 1) ∧ 2 * j + 1 ∈ avail lg := fun j hj => by
          obtain ⟨x, a, b, c⟩ := htab j hj
          exact ⟨x, a, T.rep _ _ _ _ (les_m lv) b, c⟩
        have hvo := win_odd (k := j + 1 - last) (by lia) hl3
        have hvb : E / 2 ^ last % 2 ^ (j + 1 - last) / 2 < 2 ^ (size - 1) := by
          have a1 : E / 2 ^ last % 2 ^ (j + 1 - last) < 2 ^ (j + 1 - last) := Nat.mod_lt _ (npw_pos _)
          have a2 : 2 ^ (j + 1 - last) ≤ 2 ^ size := Nat.pow_le_pow_right (by decide) (by lia)
          have a3 : 2 ^ size = 2 * 2 ^ (size - 1) := by rw [← Nat.pow_succ']; congr 1; lia
          lia
        obtain ⟨x, x1, x2, x3⟩ := htab _ hvb
        have ev : 2 * (E / 2 ^ last % 2 ^ (j + 1 - last) / 2) + 1 = E / 2 ^ last % 2 ^ (j + 1 - last) := by lia
        rw [ev] at x2 x3
        have hw := win_step E last (j + 1 - last)
        have el : last + (j + 1 - last) = j + 1 := by lia
        rw [el] at hw
        have hv0 : 0 < E / 2 ^ last % 2 ^ (j + 1 - last) := by lia
        generalize E / 2 ^ last % 2 ^ (j + 1 - last) = vv at *
        have e3 : (vv : Int).fdiv 2 = ((vv / 2 : Nat) : Int) := fdivN vv 2
        rcases hcase with ⟨q, rfl, hlg⟩ | ⟨hk, hr, hav, wn, p, c1, c2, c3, c4⟩
        · have hj : j = nb := by lia
          subst hj
          have : E / 2 ^ (j + 1) = 0 := Nat.div_eq_of_lt hu
          rw [this, Nat.zero_mul, Nat.zero_add] at hw
          repeat ktr_rel
          refine ⟨fun hc => ?_, fun hc => by cases hc⟩
          repeat ktr_rel
          rw [e3]
          refine sub_list (up_same _ _ _) (by lia) (by lia) (by rw [Int.toNat_natCast]; exact x1) ?_
          repeat ktr_rel
          refine ⟨last, by lia, by lia, x, hpv, lg, Les.refl, hfv, lm, hin, hvl, htab, .inr ⟨by lia, hw ▸ x2, hw ▸ x3, 1, j + 1, by lia, by lia, by lia, fun l h1 h2 => hl4 l h1 h2⟩, Sub.cons ?_ (Sub.cons rfl (Sub.cons rfl (Sub.cons rfl (Sub.cons rfl (Sub.cons rfl (Sub.cons rfl Sub.nil))))))⟩
          show some (AV.int _) = _
          congr 2; lia
        · have hr := T.rep _ _ _ _ (les_m lv) hr
          have hjs : j + size + 1 ≤ p := by
            by_cases q : p ≤ j + size
            · have := c4 j q (by lia); lia
            · lia
          have nn : fv ≠ .none := T.notn _ _ _ hr
          repeat ktr_rel
          refine ⟨fun hc => absurd hc (by clear hr hs; cases fv <;> first | exact absurd rfl nn | exact Bool.false_ne_true), fun hc => ?_⟩
          ktr_rel
          refine SV_For_rng (by exact hh) (fun i m hp' => i ≤ j + 1 - last ∧ ∃ fv hpx lg', Les (up hpx tb (.list tbl)) hp' ∧ hpx tb = none ∧ LesM M hp hpx ∧ Inv hpx lg' ∧ ValidLog lg' ∧ (∀ j, j < 2 ^ (size - 1) → ∃ x, tbl[j]? = some x ∧ Rep hpx x (2 * j + 1) ∧ 2 * j + 1 ∈ avail lg') ∧ Rep hpx fv (E / 2 ^ (j + 1) * 2 ^ i) ∧ E / 2 ^ (j + 1) * 2 ^ i ∈ avail lg' ∧ lg'.length = lg.length + i ∧
            Sub [("spot", .int (j : Int)), ("many", .int ((j + 1 - last : Nat) : Int)), ("value", .int (vv : Int)), ("found", fv), ("table", .ref tb), ("e", .ref ae), ("size", .int size), ("w", .int W), ("times", .ref tf)] m) ?_
          repeat ktr_rel
          refine cl_range1 fun r hr' => ⟨_, _, _, _, rfl, up_same _ _ _, sm_up (by lia) (by lia) (by lia) (by lia), by rw [rs_up (by lia)]; lia, ⟨by lia, fv, hpv, lg, Les.refl.new hr', hfv, lm, hin, hvl, htab, by rw [Nat.pow_zero, Nat.mul_one]; exact hr, by rw [Nat.pow_zero, Nat.mul_one]; exact hav, rfl, Sub.cons rfl (Sub.cons rfl (Sub.cons rfl (Sub.cons rfl (Sub.cons rfl (Sub.cons rfl (Sub.cons rfl (Sub.cons rfl (Sub.cons rfl Sub.nil))))))))⟩, ?_, ?_⟩
          · rintro i m hp' hi' ⟨_, fv, hpx, lg', le, hfx, lm, hin, hvl, htab, hr, hav, hlg, hs⟩
            obtain ⟨hpu, rfl, hfu, lu⟩ := les_split hfx le
            rw [rs_up (by lia)] at hi'
            have hin := T.inv _ _ _ lu hin
            have hr := T.rep _ _ _ _ (les_m lu) hr
            have hpo : 0 < E / 2 ^ (j + 1) * 2 ^ i := Nat.mul_pos (hpos _ hk) (npw_pos _)
            refine SV_at hs.put Les.refl ?_
            repeat ktr_rel
            refine CW_T T (rm.deeper.less (by lia)) hfu hin hr hr hpo hpo (by have := Nat.le_mul_of_pos_right wn hs0; lia) ?_ fun r hpt lt hft hrr hiv => ?_
            · intro R hR
              repeat ktr_rel
              all_goals exact hR
            repeat ktr_rel
            have e2 : E / 2 ^ (j + 1) * 2 ^ i + E / 2 ^ (j + 1) * 2 ^ i = E / 2 ^ (j + 1) * 2 ^ (i + 1) := by rw [Nat.pow_succ 2 i, ← Nat.mul_assoc]; lia
            refine ⟨by lia, r, hpt, _, Les.refl, hft, (lm.trans (les_m lu)).trans lt, hiv, hvl.snoc hav hav, fun i hi => ?_, e2 ▸ hrr, e2 ▸ avail_new, by rw [List.length_append, hlg]; rfl, Sub.cons rfl (Sub.cons rfl (Sub.cons rfl (Sub.cons rfl (Sub.cons rfl (Sub.cons rfl (Sub.cons rfl (Sub.cons rfl (Sub.cons rfl Sub.nil))))))))⟩
            obtain ⟨x, a, b, c⟩ := htab i hi
            exact ⟨x, a, T.rep _ _ _ _ ((les_m lu).trans lt) b, avail_mono c⟩
          · rintro m hp' ⟨_, fv, hpx, lg', le, hfx, lm, hin, hvl, htab, hr, hav, hlg, hs⟩
            obtain ⟨hpu, rfl, hfu, lu⟩ := les_split hfx le
            have e4 : (Builtin.Range.rangeSize 0 ((j + 1 - last : Nat) : Int) 1).toNat = j + 1 - last := by rw [rs_up (by lia)]; lia
            rw [e4] at hr hav hlg
            have hin := T.inv _ _ _ lu hin
            have hr := T.rep _ _ _ _ (les_m lu) hr
            obtain ⟨y, y1, y2, y3⟩ := htab _ hvb
            have y2 := T.rep _ _ _ _ (les_m lu) y2
            rw [ev] at y2 y3
            have hpo : 0 < E / 2 ^ (j + 1) * 2 ^ (j + 1 - last) := Nat.mul_pos (hpos _ hk) (npw_pos _)
            refine SV_at hs Les.refl ?_
            repeat ktr_rel
            refine CW_T T (rm.deeper.less (by lia)) hfu hin hr y2 hpo hv0 (by have := Nat.le_mul_of_pos_right wn hs0; lia) ?_ fun r hpt lt hft hrr hiv => ?_
            · intro R hR
              repeat ktr_rel
              rw [e3]
              refine sub_list (up_same _ _ _) (by lia) (by lia) (by rw [Int.toNat_natCast]; exact y1) ?_
              repeat ktr_rel
              all_goals exact hR
            repeat ktr_rel
            rw [← hw] at hrr
            refine ⟨last, by lia, by lia, r, hpt, _, Les.refl, hft, (lm.trans (les_m lu)).trans lt, hiv, hvl.snoc hav y3, fun i hi => ?_, .inr ⟨by lia, hrr, by rw [hw]; exact avail_new, wn + 1, j + 1, ?_, ?_, by lia, fun l h1 h2 => hl4 l h1 h2⟩, Sub.cons ?_ (Sub.cons rfl (Sub.cons rfl (Sub.cons rfl (Sub.cons rfl (Sub.cons rfl (Sub.cons rfl Sub.nil))))))⟩
            · obtain ⟨x, a, b, c⟩ := htab i hi
              exact ⟨x, a, T.rep _ _ _ _ ((les_m lu).trans lt) b, avail_mono c⟩
            · rw [List.length_append, hlg]; simp only [List.length_singleton]; lia
            · rw [Nat.add_mul]; lia
            · show some (AV.int _) = _
              congr 2; lia
    · have hk0 : k = 0 := by simp only [decide_eq_false_iff_not] at hc; lia
      subst hk0
      rcases hcase with ⟨q, _⟩ | ⟨_, hr, hav, wn, p, c1, c2, c3, c4⟩
      · lia
      rw [Nat.pow_zero, Nat.div_one] at hr hav
      exact ⟨lg, hpw, fv, rfl, rfl, hfw, lm, hin, hvl, hr, hav, ⟨wn, by lia, by lia⟩, Sub.cons rfl Sub.nil⟩
  · rintro fl m' hp' ⟨lg, hpx, fv, rfl, rfl, hfx, lm, hin, hvl, hr, hE2, ⟨wn, w1, w2⟩, hs⟩
    refine SV_at hs (Les.refl.new hfx) ?_
    repeat ktr_rel
    exact h _ _ lg lm hr hin hvl (fun q => by lia) fun _ => ⟨hE2, nb, wn, hl, hu, w1, w2⟩

end
section
variable {prog : Program} {w : World} {h₁ : Heap} {A : Around} {hp : Hp} {Q : AV → Hp → Prop}
theorem check_spec (C : CX prog w (hd.heap_1 w.params) h₁) (rm : Room A 6) {a : Addr} {ns : List Int} (ha : hp a = some (.list (iL ns))) (hns : ns ≠ []) (h : ∀ hp', Les hp hp' → Q .none hp') :
    CL prog w h₁ A (.ref 116) [.ref a] hp Q := by
  refine CV_fn C (xs := ["m"]) rfl rfl (by have := rm.hd; omega) rfl ?_ rfl (by decide) (by decide) rfl rfl rfl ?_
  · rintro (_ | ⟨x0, _ | ⟨x1, r⟩⟩) hv <;> first | rfl | cases hv
  intro L
  have hh : A.handled = none := rm.hh
  repeat ktr_rel
  refine ⟨by simp, fun b hb => ?_⟩
  have l0 : Les hp (up hp b (.list [])) := Les.refl.new hb
  repeat ktr_rel
  refine cm_leq (ns := ns) (ms := []) (by show A.units + 3 + 64 < cLine; have := rm.hu; lia) (l0 _ _ ha) (up_same _ _ _) ?_
  refine ⟨_, rfl, fun hc => absurd (of_decide_eq_true hc) hns, fun hc => ?_⟩
  repeat ktr_rel
  exact h _ l0

theorem unit_spec (C : CX prog w (hd.heap_1 w.params) h₁) (rm : Room A 6) {a : Addr} {W m : Nat} (hW0 : 0 < W) (hm : 0 < m) (ha : hp a = some (.list (iL (lim W m))))
    (h : ∀ b hp', Les hp hp' → hp b = none → hp' b = some (.list (iL (lim W (1 % m)))) → Q (.ref b) hp') :
    CL prog w h₁ A (.ref 123) [.ref a] hp Q := by
  refine CV_fn C (xs := ["m"]) rfl rfl (by have := rm.hd; omega) rfl ?_ rfl (by decide) (by decide) rfl rfl rfl ?_
  · rintro (_ | ⟨x0, _ | ⟨x1, r⟩⟩) hv <;> first | rfl | cases hv
  intro L
  have hh : A.handled = none := rm.hh
  have h1 : lim W 1 = [1] := by
    rw [lim_pos hW0 (by decide), Nat.mod_eq_of_lt (Nat.one_lt_two_pow (by lia)), Nat.div_eq_of_lt (Nat.one_lt_two_pow (by lia)), lim_zero]; rfl
  repeat ktr_rel
  refine EV_IfExp ?_
  repeat ktr_rel
  refine ⟨by simp, fun b hb => ?_⟩
  have l0 : Les hp (up hp b (.list [.int 1])) := Les.refl.new hb
  repeat ktr_rel
  refine cm_leq (ns := lim W m) (ms := [1]) (by show A.units + 3 + 64 < cLine; have := rm.hu; lia) (l0 _ _ ha) (up_same _ _ _) ?_
  refine ⟨_, rfl, fun hc => ?_, fun hc => ?_⟩
  · have e := of_decide_eq_true hc
    have hm1 : m = 1 := by
      have := congrArg (val (2 ^ W)) (e.trans h1.symm)
      rw [val_lim hW0, val_lim hW0] at this
      lia
    subst hm1
    repeat ktr_rel
    refine ⟨by simp, fun c hc => ?_⟩
    refine h c _ (l0.new (Les.none l0 hc)) (Les.none l0 hc) ?_
    rw [up_same, Nat.mod_one, lim_zero]; rfl
  · have hm1 : m ≠ 1 := fun q => by
      subst q
      exact absurd h1 (of_decide_eq_false hc)
    repeat ktr_rel
    refine ⟨by simp, fun c hc => ?_⟩
    refine h c _ (l0.new (Les.none l0 hc)) (Les.none l0 hc) ?_
    rw [up_same, Nat.mod_eq_of_lt (by lia), h1]; rfl

theorem limbs_spec (C : CX prog w (hd.heap_1 w.params) h₁) (rm : Room A 1) {N W : Nat} (hW0 : 0 < W) (hW : W ≤ 7) (hN : N ≤ 10000)
    (h : ∀ b hp', Les hp hp' → hp b = none → hp' b = some (.list (iL (lim W N))) → Q (.ref b) hp') :
    CL prog w h₁ A (.ref 200) [.int N, .int W] hp Q := by
  refine CV_fn C (xs := ["number", "w"]) rfl rfl (by have := rm.hd; omega) rfl ?_ rfl (by decide) (by decide) rfl rfl rfl ?_
  · rintro (_ | ⟨x0, _ | ⟨x1, _ | ⟨x2, r⟩⟩⟩) hv <;> first | rfl | cases hv
  intro L
  have hh : A.handled = none := rm.hh
  have hB0 : 1 ≤ 2 ^ W := npw_pos _
  have hB1 : 2 ^ W ≤ 128 := by
    have : ∀ k, k ≤ 7 → 2 ^ k ≤ 128 := by decide
    exact this _ hW
  have hB2 : 2 ≤ 2 ^ W := Nat.le_trans (by decide) (Nat.pow_le_pow_right (by decide) hW0)
  repeat ktr_rel
  refine ⟨by simp, fun f hf => ?_⟩
  repeat ktr_rel
  refine SV_While (fun k m hp' => ∃ ns : List Int, (∀ a o, hp a = some o → hp' a = some o) ∧ hp' f = some (.list (iL ns)) ∧ ns.length + k ≤ N ∧ ns ++ lim W k = lim W N ∧ Sub [("number", .int (k : Int)), ("found", .ref f), ("w", .int W)] m) N
    ⟨[], Les.refl.new hf, up_same _ _ _, by simp, rfl, Sub.cons rfl (Sub.cons rfl (Sub.cons rfl Sub.nil))⟩ ?_
  rintro k m hp' ⟨ns, le, hf1, hlen, heq, hs⟩
  refine ⟨_, _, hs, Les.refl, ?_⟩
  have ep : (2 : Int) ^ (W : Int).toNat = ((2 ^ W : Nat) : Int) := by rw [Int.toNat_natCast]; exact (cast_pw W).symm
  repeat ktr_rel
  refine ⟨fun hc => ?_, fun hc => ?_⟩
  · have hk : 0 < k := by simp only [decide_eq_true_eq] at hc; lia
    repeat ktr_rel
    refine ⟨_, _, rfl, hf1, ?_⟩
    repeat ktr_rel
    rw [ep, fmodN]
    repeat ktr_rel
    refine cl_append hf1 (by rw [iL_len]; lia) ⟨rfl, ?_⟩
    repeat ktr_rel
    rw [ep, fdivN]
    have hlt : k / 2 ^ W < k := Nat.div_lt_self hk hB2
    refine ⟨k / 2 ^ W, hlt, ns ++ [((k % 2 ^ W : Nat) : Int)], fun b ob e => by rw [up_ne (ne_of_none e hf)]; exact le b ob e, by rw [up_same, iL_snoc], by rw [List.length_append]; simp only [List.length_singleton]; lia, ?_, Sub.cons rfl (Sub.cons rfl (Sub.cons rfl Sub.nil))⟩
    rw [← heq, lim_pos hW0 hk, List.append_assoc]; rfl
  · have hk : k = 0 := by simp only [decide_eq_false_iff_not] at hc; lia
    subst hk
    rw [lim_zero, List.append_nil] at heq
    subst heq
    repeat ktr_rel
    exact h f _ le hf hf1

theorem most_spec (C : CX prog w (hd.heap_1 w.params) h₁) (rm : Room A 1) {E size : Nat} (hs0 : 1 ≤ size) (hs1 : size ≤ 4)
    (h : ∀ r : Nat, (E = 0 → r = 0) → (∀ nb, 2 ^ nb ≤ E → E < 2 ^ (nb + 1) → r + 2 = 2 ^ (size - 1) + (nb + 1) + (nb + size) / size) → ∀ hp', Les hp hp' → Q (.int (r : Int)) hp') :
    CL prog w h₁ A (.ref 221) [.int E, .int size] hp Q := by
  refine CV_fn C (xs := ["e", "size"]) rfl rfl (by have := rm.hd; omega) rfl ?_ rfl (by decide) (by decide) rfl rfl rfl ?_
  · rintro (_ | ⟨x0, _ | ⟨x1, _ | ⟨x2, r⟩⟩⟩) hv <;> first | rfl | cases hv
  intro L
  have hh : A.handled = none := rm.hh
  refine SV_cons (SV_AsgSw2 (by exact hh) ?_)
  repeat ktr_rel
  refine ⟨by simp, fun t ht => ⟨t, _, _, rfl, up_same _ _ _, ?_⟩⟩
  have lq : Les hp (up hp t (.tup [.int 0, .int E])) := Les.refl.new ht
  generalize up hp t (.tup [.int 0, .int E]) = hpz at lq
  repeat ktr_rel
  refine SV_While (fun k m hp' => hp' = hpz ∧ ∃ j : Nat, k = E / 2 ^ j ∧ (j = 0 ∨ 2 ^ (j - 1) ≤ E) ∧ Sub [("many", .int (j : Int)), ("left", .int (k : Int)), ("e", .int (E : Int)), ("size", .int (size : Int))] m) E
    ⟨rfl, 0, by rw [Nat.pow_zero, Nat.div_one], .inl rfl, Sub.cons rfl (Sub.cons rfl (Sub.cons rfl (Sub.cons rfl Sub.nil)))⟩ ?_
  rintro k m hp' ⟨rfl, j, hk, hj, hs⟩
  refine ⟨_, _, hs, Les.refl, ?_⟩
  repeat ktr_rel
  refine ⟨fun hc => ?_, fun hc => ?_⟩
  · have hk0 : 0 < k := by simp only [decide_eq_true_eq] at hc; lia
    refine SV_cons (SV_AsgSw2 (by exact hh) ?_)
    repeat ktr_rel
    refine ⟨by simp, fun t ht => ⟨t, _, _, rfl, up_same _ _ _, ?_⟩⟩
    have l2 : Les hp' (up hp' t (.tup [.int ((j : Int) + 1), .int ((k : Int).fdiv 2)])) := Les.refl.new ht
    refine SV_at Sub.refl l2 ?_
    have e2 : (k : Int).fdiv 2 = ((k / 2 : Nat) : Int) := fdivN k 2
    rw [e2]
    repeat ktr_rel
    refine ⟨k / 2, by lia, rfl, j + 1, by rw [hk, Nat.div_div_eq_div_mul, ← Nat.pow_succ], .inr ?_, Sub.cons ?_ (Sub.cons rfl (Sub.cons rfl (Sub.cons rfl Sub.nil)))⟩
    · have : 2 ^ j ≤ E := by
        by_cases q : 2 ^ j ≤ E
        · exact q
        · rw [hk, Nat.div_eq_of_lt (by lia)] at hk0; lia
      simpa using this
    · rfl
  · have hk0 : k = 0 := by simp only [decide_eq_false_iff_not] at hc; lia
    have hE : E < 2 ^ j := by
      by_cases q : 2 ^ j ≤ E
      · have := Nat.div_pos q (npw_pos j); lia
      · lia
    have p1 : 2 ^ (size - 1) ≤ 8 := by
      have : ∀ k, k ≤ 3 → 2 ^ k ≤ 8 := by decide
      exact this _ (by lia)
    repeat ktr_rel
    refine EV_IfExp ?_
    repeat ktr_rel
    refine ⟨fun hc => ?_, fun hc => ?_⟩
    · have hE0 : E = 0 := by simp only [decide_eq_true_eq] at hc; lia
      repeat ktr_rel
      refine h 0 (fun _ => rfl) (fun nb h1 h2 => ?_) _ lq
      have := npw_pos nb
      lia
    · have hE0 : E ≠ 0 := by simp only [decide_eq_false_iff_not] at hc; lia
      repeat ktr_rel
      have e3 : ((j : Int) + (size : Int) - 1).fdiv (size : Int) = (((j + size - 1) / size : Nat) : Int) := by
        rw [← fdivN]; congr 1; lia
      have e4 : (2 : Int) ^ ((size : Int) - 1).toNat = ((2 ^ (size - 1) : Nat) : Int) := by
        have : ((size : Int) - 1).toNat = size - 1 := by lia
        rw [this, cast_pw]
      rw [e3, e4]
      have hj0 : 0 < j := by
        rcases Nat.eq_zero_or_pos j with q | q
        · rw [q] at hE; simp at hE; lia
        · exact q
      have hd : 1 ≤ (j + size - 1) / size := Nat.div_pos (by lia) (by lia)
      have p0 : 1 ≤ 2 ^ (size - 1) := npw_pos _
      have hD : ∀ nb, nb + 1 = j → (nb + size) / size = (j + size - 1) / size := fun nb q => by
        have : nb + size = j + size - 1 := by lia
        rw [this]
      generalize (j + size - 1) / size = D at *
      generalize 2 ^ (size - 1) = T at *
      have e5 : (T : Int) + (j : Int) - 1 + (D : Int) - 1 = ((T + j + D - 2 : Nat) : Int) := by lia
      rw [e5]
      refine h _ (fun q => absurd q hE0) (fun nb h1 h2 => ?_) _ lq
      have hnb : nb + 1 = j := by
        rcases hj with q | q
        · lia
        · have z1 : nb < j := (Nat.pow_lt_pow_iff_right (by decide)).mp (Nat.lt_of_le_of_lt h1 hE)
          have z2 : j - 1 < nb + 1 := (Nat.pow_lt_pow_iff_right (by decide)).mp (Nat.lt_of_le_of_lt q h2)
          lia
      rw [hD nb hnb]
      lia

theorem sifted_spec (C : CX prog w (hd.heap_1 w.params) h₁) (rm : Room A 1) {t l : Addr} {k many : Nat} {gs : List Int} (hk : k ≤ 1000) (hm : 0 < many) (ht : hp t = some (.list [.int (k : Int), .ref l])) (hl : hp l = some (.list (iL gs))) (hg : gs.length ≤ 1000)
    (h : ∀ r : Nat, r < many → ∀ hp', LesM (· = t) hp hp' → hp' t = some (.list [.int ((k + 1 : Nat) : Int), .ref l]) → Q (.int (r : Int)) hp') :
    CL prog w h₁ A (.ref 193) [.ref t, .int (many : Int)] hp Q := by
  refine CV_fn C (xs := ["tub", "many"]) rfl rfl (by have := rm.hd; omega) rfl ?_ rfl (by decide) (by decide) rfl rfl rfl ?_
  · rintro (_ | ⟨x0, _ | ⟨x1, _ | ⟨x2, r⟩⟩⟩) hv <;> first | rfl | cases hv
  intro L
  have hh : A.handled = none := rm.hh
  repeat ktr_rel
  refine sub_list ht (by decide) (by decide) rfl ?_
  repeat ktr_rel
  refine ⟨t, rfl, by rw [ht]; simp, fun vi vv hvi hvv => set_list ht (by decide) (by simp) (by decide) hvi hvv ?_⟩
  have hne : l ≠ t := fun q => by
    subst q
    rw [ht] at hl
    injection hl with hl
    injection hl with hl
    cases gs with
    | nil => cases hl
    | cons g r => cases r with
      | nil => cases hl
      | cons g' r => injection hl with _ hl; injection hl with hl; cases hl
  have ht2 : (up hp t (.list [.int ((k : Int) + 1), .ref l])) t = some (.list [.int ((k + 1 : Nat) : Int), .ref l]) := up_same _ _ _
  have hl2 : (up hp t (.list [.int ((k : Int) + 1), .ref l])) l = some (.list (iL gs)) := by rw [up_ne hne]; exact hl
  have lm : LesM (· = t) hp (up hp t (.list [.int ((k : Int) + 1), .ref l])) := fun a o ha e => by rw [up_ne ha]; exact e
  show SV _ _ _ _ _ _ _ (up hp t (.list [.int ((k : Int) + 1), .ref l])) _
  generalize up hp t (.list [.int ((k : Int) + 1), .ref l]) = hp2 at *
  have fin : ∀ x : Int, Q (.int (x.fmod (many : Int))) hp2 := fun x => by
    rw [Int.fmod_eq_emod_of_nonneg _ (Int.natCast_nonneg many)]
    have h1 := Int.emod_nonneg x (b := (many : Int)) (by lia)
    have h2 := Int.emod_lt_of_pos x (b := (many : Int)) (by lia)
    obtain ⟨r, hr⟩ := Int.eq_ofNat_of_zero_le h1
    rw [hr] at h2 ⊢
    exact h r (by lia) hp2 lm ht2
  repeat ktr_rel
  refine sub_list ht2 (by decide) (by decide) rfl ?_
  repeat ktr_rel
  refine sub_list ht2 (by decide) (by decide) rfl ?_
  repeat ktr_rel
  refine ⟨fun hc => ?_, fun hc => ?_⟩
  · have hlt : k < gs.length := by simp only [decide_eq_true_eq, iL_len] at hc; lia
    repeat ktr_rel
    refine sub_list ht2 (by decide) (by decide) rfl ?_
    repeat ktr_rel
    refine sub_list ht2 (by decide) (by decide) rfl ?_
    repeat ktr_rel
    have e1 : ((k + 1 : Nat) : Int) - 1 = (k : Int) := by lia
    rw [e1]
    refine sub_list hl2 (by lia) (by lia) (v := .int gs[k]) (by rw [Int.toNat_natCast, List.getElem?_map, List.getElem?_eq_getElem hlt]; rfl) ?_
    repeat ktr_rel
    exact fin _
  · repeat ktr_rel
    refine sub_list ht2 (by decide) (by decide) rfl ?_
    repeat ktr_rel
    refine sub_list ht2 (by decide) (by decide) rfl ?_
    repeat ktr_rel
    exact fin _

end
section
variable {prog : Program} {w : World} {h₁ : Heap} {A : Around} {hp : Hp} {Q : AV → Hp → Prop}
def PL (hp : Hp) (ps : List AV) (lg : List (Nat × Nat)) : Prop := ps.length = lg.length ∧ ∀ (k : Nat) z, ps[k]? = some z → ∃ T i j, z = .ref T ∧ hp T = some (.tup [.int (i : Nat), .int (j : Nat)]) ∧ lg[k]? = some (i, j)
theorem TabOk.lesB {P b : Addr} {qual : Str} {ln co : Int} {hp hp' : Hp} {ps : List AV} (x : TabOk P qual ln co hp) (hb : hp b = some (.list ps)) (k : LesM (· = b) hp hp') : TabOk P qual ln co hp' := by
  rcases x with e | ⟨c', oc, fs, t, a, e, r⟩
  · exact .inl (k _ _ (fun q => by rw [q, hb] at e; cases e) e)
  · exact .inr ⟨c', oc, fs, t, k _ _ (fun q => by rw [q, hb] at a; cases a) a, k _ _ (fun q => by rw [q, hb] at e; cases e) e, r⟩
theorem TabOk.has {P : Addr} {qual : Str} {ln co : Int} {hp : Hp} (x : TabOk P qual ln co hp) : ∃ o, hp P = some (.obj o) := by
  rcases x with e | ⟨c', oc, fs, t, a, e, r⟩
  · exact ⟨_, e⟩
  · exact ⟨_, a⟩
theorem chain_spec (C : CX prog w (hd.heap_1 w.params) h₁) (N : CN h₁ 206 202) (rm : Room A 8) {E W size : Nat} (hs0 : 1 ≤ size) (hs1 : size ≤ 4) (hW0 : 0 < W) (hW : W ≤ 7) (hEb : E ≤ 1000)
    (hT : TabOk 202 ("_law_chain" ++ ".<locals>." ++ "taken") 173 4 hp)
    (h : ∀ T p ps lg hp', LesM (· = 202) hp hp' → TabOk 202 ("_law_chain" ++ ".<locals>." ++ "taken") 173 4 hp' → hp' T = some (.tup [.int E, .ref p]) → hp' p = some (.list ps) → PL hp' ps lg → ValidLog lg →
      (E = 0 → lg = []) → (0 < E → E ∈ avail lg ∧ ∃ nb wn, 2 ^ nb ≤ E ∧ E < 2 ^ (nb + 1) ∧ lg.length + 2 ≤ 2 ^ (size - 1) + (nb + 1) + wn ∧ wn * size ≤ nb + size) → Q (.ref T) hp') :
    CL prog w h₁ A (.ref 207) [.int E, .int W, .int size] hp Q := by
  have hh : A.handled = none := rm.hh
  refine CV_fnC C (xs := ["e", "w", "size"]) (m := [("e", .int E), ("w", .int W), ("size", .int size)]) rfl rfl (by have := rm.hd; lia) rfl ?_ ?_ (by decide) (by decide) (by decide) rfl rfl rfl ?_ ?_
  · rintro (_ | ⟨x, _ | ⟨y, _ | ⟨z, _ | ⟨u, r⟩⟩⟩⟩) hv <;> first | rfl | cases hv
  · intro n x hx
    simp only [List.mem_cons, List.not_mem_nil, or_false] at hx
    rcases hx with rfl | rfl | rfl <;> exact .inl rfl
  · intro y v e
    refine ⟨e, ?_⟩
    rw [lookup_put, lookup_put, lookup_put] at e
    by_cases q1 : y = "e"
    · subst q1; rfl
    · rw [if_neg q1] at e
      by_cases q2 : y = "w"
      · subst q2; rfl
      · rw [if_neg q2] at e
        by_cases q3 : y = "size"
        · subst q3; rfl
        · rw [if_neg q3] at e; cases e
  intro L hpC le hL hcells
  obtain ⟨hcn, hcell⟩ := hcells "pairs" _ rfl
  replace hcell : hpC (L + 1) = some .cell0 := hcell
  repeat ktr_rel
  refine ⟨by simp, fun b hb => ?_⟩
  have hcb : L + 1 ≠ b := ne_of_none hcell hb
  have hbn : hp b = none := Les.none le hb
  repeat ktr_rel
  have le1 : Les hp (up (up hpC b (.list [])) (L + 1) (.cell (.ref b))) := fun a o e => by
    rw [up_ne (ne_of_none e hcn), up_ne (ne_of_none e hbn)]; exact le _ _ e
  have hbe : up (up hpC b (.list [])) (L + 1) (.cell (.ref b)) b = some (.list []) := by rw [up_ne hcb.symm]; exact up_same _ _ _
  have hce : up (up hpC b (.list [])) (L + 1) (.cell (.ref b)) (L + 1) = some (.cell (.ref b)) := up_same _ _ _
  generalize up (up hpC b (.list [])) (L + 1) (.cell (.ref b)) = hp1 at *
  clear hcells
  obtain ⟨oT, hoT⟩ := hT.has
  have hb2 : b ≠ 202 := (ne_of_none hoT hbn).symm
  have hc2 : L + 1 ≠ 202 := (ne_of_none hoT hcn).symm
  refine SV_Def N rfl (hT.les le1) rfl rfl rfl rfl fun f c' oc fs t ctv doc pm hp2 lm hT2 hfn hf hc1 hoc hq => ?_
  have hbe2 := lm _ _ hb2 hbe
  have hce2 := lm _ _ hc2 hce
  have T : Tm prog w h₁ 1 f (· = b) (fun _ x i => x = .int (i : Nat)) (fun hp' lg => hp' f = hp2 f ∧ hp' c' = some (.obj oc) ∧ hp' (L + 1) = some (.cell (.ref b)) ∧ ∃ ps, hp' b = some (.list ps) ∧ PL hp' ps lg) := by
    refine ⟨fun hp' lg ⟨e, _⟩ => ⟨_, _, _, _, e.trans hf⟩, fun hp' hp'' lg k ⟨e1, e2, e3, ps, e4, e5⟩ => ⟨(k _ _ (e1.trans hf)).trans hf.symm, k _ _ e2, k _ _ e3, ps, k _ _ e4, e5.1, fun i z q => by obtain ⟨T, i, j, a, b, c⟩ := e5.2 i z q; exact ⟨T, i, j, a, k _ _ b, c⟩⟩, fun _ _ _ _ _ e => e, ?_, fun _ x i e q => by rw [e] at q; cases q⟩
    rintro A' hp' x y i j lg Q' rm' ⟨e1, e2, e3, ps, e4, e5⟩ rfl rfl i0 j0 hl k
    refine CV_fnO C.nolimit (xs := ["x", "y"]) (e1.trans hf) e2 hoc hq (by have := rm'.hd; lia) rfl ?_ rfl (by decide) (by decide) rfl rfl rfl ?_
    · rintro (_ | ⟨x, _ | ⟨y, _ | ⟨z, r⟩⟩⟩) hv <;> first | rfl | cases hv
    intro L'
    repeat ktr_rel
    refine ⟨b, ps, rfl, e4, ?_⟩
    repeat ktr_rel
    refine ⟨by simp, fun t ht => ?_⟩
    have lt : Les hp' (up hp' t (.tup [.int (i : Int), .int (j : Int)])) := Les.refl.new ht
    have htt : up hp' t (.tup [.int (i : Int), .int (j : Int)]) t = some (.tup [.int (i : Int), .int (j : Int)]) := up_same _ _ _
    have htb : t ≠ b := (ne_of_none e4 ht).symm
    generalize up hp' t (.tup [.int (i : Int), .int (j : Int)]) = hp'' at *
    refine cl_append (lt _ _ e4) (by rw [e5.1]; lia) ⟨rfl, ?_⟩
    repeat ktr_rel
    have lb : LesM (· = b) hp' (up hp'' b (.list (ps ++ [.ref t]))) := fun a o ha e => by rw [up_ne ha]; exact lt _ _ e
    refine k _ _ lb (by rw [Int.natCast_add]; rfl) ⟨?_, lb _ _ (fun q => by rw [q, e4] at e2; cases e2) e2, lb _ _ hcb e3, ps ++ [.ref t], up_same _ _ _, by simp [e5.1], fun i' z q => ?_⟩
    · have ef := e1.trans hf
      exact (lb _ _ (fun q => by rw [q, e4] at ef; cases ef) ef).trans hf.symm
    · by_cases hlt : i' < ps.length
      · rw [List.getElem?_append_left hlt] at q
        obtain ⟨T, i2, j2, a, b2, c⟩ := e5.2 i' z q
        exact ⟨T, i2, j2, a, lb _ _ (fun q => by rw [q, e4] at b2; cases b2) b2, by rw [List.getElem?_append_left (by rw [← e5.1]; exact hlt)]; exact c⟩
      · rw [List.getElem?_append_right (by lia)] at q
        have hi0 : i' - ps.length = 0 := by
          cases hh : i' - ps.length with
          | zero => rfl
          | succ n => rw [hh] at q; simp at q
        rw [hi0] at q
        cases q
        refine ⟨t, i, j, rfl, by rw [up_ne htb]; exact htt, ?_⟩
        have : i' = lg.length := by have := e5.1; lia
        rw [this, List.getElem?_append_right (Nat.le_refl _), Nat.sub_self]; rfl
  repeat ktr_rel
  refine limbs_spec C (rm.deeper.less (by lia)) hW0 hW (by lia) fun ae hp3 l3 hae0 hae => ?_
  have hab : ¬ ae = b := fun q => by rw [q, hbe2] at hae0; cases hae0
  repeat ktr_rel
  refine by_windows_spec C (rm.deeper.less (by lia)) T hs0 hs1 hW0 hW hae (Nat.le_trans (lim_len_small (k := 10) hW0 (by lia)) (by decide)) (by lia) hab (T.inv _ _ _ l3 ⟨rfl, hc1, hce2, [], hbe2, rfl, fun k z q => by simp at q⟩) rfl (fun q => rfl) fun r hp4 lg l4 hr hi4 hv h1 h2 => ?_
  subst hr
  obtain ⟨_, _, hce4, ps, hb4, hpl⟩ := hi4
  repeat ktr_rel
  refine ⟨by simp, fun t ht => ?_⟩
  have l5 : Les hp4 (up hp4 t (.tup [.int (E : Int), .ref b])) := Les.refl.new ht
  refine h t b ps lg _ (fun a o ha e => l5 _ _ (l4 _ _ (fun q => by rw [q, hbn] at e; cases e) (l3 _ _ (lm _ _ ha (le1 _ _ e))))) (((hT2.les l3).lesB (l3 _ _ hbe2) l4).les l5) (up_same _ _ _) (l5 _ _ hb4) ⟨hpl.1, fun k z q => ?_⟩ hv h1 h2
  obtain ⟨T, i, j, a, b, c⟩ := hpl.2 k z q
  exact ⟨T, i, j, a, l5 _ _ b, c⟩

end
section
variable {prog : Program} {w : World} {h₁ : Heap} {A : Around} {hp : Hp} {Q : AV → Hp → Prop}
theorem divided_spec (C : CX prog w (hd.heap_1 w.params) h₁) (N : CN h₁ 129 125) (rm : Room A 2) {am : Addr} {W m : Nat} (a : Nat) (hW0 : 0 < W) (hW : W ≤ 7) (hm : 0 < m) (hmb : m ≤ 1000)
    (ham : hp am = some (.list (iL (lim W m)))) (hT : TabOk 125 ("divided_times" ++ ".<locals>." ++ "multiplied") 90 4 hp)
    (h : ∀ f Inv hp', LesM (· = 125) hp hp' → TabOk 125 ("divided_times" ++ ".<locals>." ++ "multiplied") 90 4 hp' →
      Tm prog w h₁ 5 f (fun _ => False) (fun hp x i => ∃ b, x = .ref b ∧ hp b = some (.list (iL (lim W (a ^ i % m))))) Inv → Inv hp' [] → Q (.ref f) hp') :
    CL prog w h₁ A (.ref 130) [.ref am, .int W, .ref 144, .ref 186] hp Q := by
  have hh : A.handled = none := rm.hh
  refine CV_fnC C (xs := ["m", "w", "mul", "divrem"]) (m := []) rfl rfl (by have := rm.hd; lia) rfl ?_ ?_ (by decide) (by decide) (by decide) rfl rfl rfl (fun y v e => by cases e) ?_
  · rintro (_ | ⟨x, _ | ⟨y, _ | ⟨z, _ | ⟨u, _ | ⟨v, r⟩⟩⟩⟩⟩) hv <;> first | rfl | cases hv
  · intro n x hx
    simp only [List.mem_cons, List.not_mem_nil, or_false] at hx
    rcases hx with rfl | rfl | rfl | rfl <;> exact .inr ⟨rfl, rfl⟩
  intro L hpC le hL hcells
  obtain ⟨n1, c1⟩ := hcells "m" _ rfl
  obtain ⟨n2, c2⟩ := hcells "w" _ rfl
  obtain ⟨n3, c3⟩ := hcells "mul" _ rfl
  obtain ⟨n4, c4⟩ := hcells "divrem" _ rfl
  repeat ktr_rel
  replace c1 : hpC (L + 1) = some (.cell (.ref am)) := c1
  replace c2 : hpC (L + 1 + 1) = some (.cell (.int (W : Int))) := c2
  replace c3 : hpC (L + 1 + 1 + 1) = some (.cell (.ref 144)) := c3
  replace c4 : hpC (L + 1 + 1 + 1 + 1) = some (.cell (.ref 186)) := c4
  clear hcells
  obtain ⟨oT, hoT⟩ := hT.has
  refine SV_Def N rfl (hT.les le) rfl rfl rfl rfl fun f c' oc fs t ctv doc pm hp2 lm hT2 hfn hf hc1 hoc hq => ?_
  have d1 := lm _ _ (ne_of_none hoT n1).symm c1
  have d2 := lm _ _ (ne_of_none hoT n2).symm c2
  have d3 := lm _ _ (ne_of_none hoT n3).symm c3
  have d4 := lm _ _ (ne_of_none hoT n4).symm c4
  have ham2 := lm _ _ (fun q => by rw [q, hoT] at ham; cases ham) (le _ _ ham)
  clear c1 c2 c3 c4
  have T : Tm prog w h₁ 5 f (fun _ => False) (fun hp x i => ∃ b, x = .ref b ∧ hp b = some (.list (iL (lim W (a ^ i % m))))) (fun hp' lg => Les hp2 hp') := by
    refine ⟨fun hp' lg e => ⟨_, _, _, _, e _ _ hf⟩, fun hp' hp'' lg k e => e.trans k, fun hp hp' x i k ⟨b, e1, e2⟩ => ⟨b, e1, k _ _ id e2⟩, ?_, fun _ x i ⟨b, e, _⟩ q => by rw [e] at q; cases q⟩
    rintro A' hp' x y i j lg Q' rm' e ⟨bx, rfl, hbx⟩ ⟨by', rfl, hby⟩ i0 j0 hl k
    have hh' : A'.handled = none := rm'.hh
    refine CV_fnO C.nolimit (xs := ["x", "y"]) (e _ _ hf) (e _ _ hc1) hoc hq (by have := rm'.hd; lia) rfl ?_ rfl (by decide) (by decide) rfl rfl rfl ?_
    · rintro (_ | ⟨x, _ | ⟨y, _ | ⟨z, r⟩⟩⟩) hv <;> first | rfl | cases hv
    intro L'
    have d1 := e _ _ d1
    have d2 := e _ _ d2
    have d3 := e _ _ d3
    have d4 := e _ _ d4
    have ham3 := e _ _ ham2
    have hlt : ∀ z, (lim W (z % m)).length ≤ 10 := fun z => lim_len_small hW0 (Nat.lt_of_lt_of_le (Nat.mod_lt _ hm) (Nat.le_trans hmb (by decide)))
    have h1 := hlt (a ^ i)
    have h2 := hlt (a ^ j)
    repeat ktr_rel
    refine mul_school_spec C (rm'.deeper.less (by lia)) hW0 hW hbx hby (by lia) (by lia) (Lim.lim _) (Lim.lim _) (v := a ^ i % m * (a ^ j % m)) (by rw [val_lim hW0, val_lim hW0, Int.natCast_mul]) fun b hp3 l3 hb0 hb => ?_
    repeat ktr_rel
    have h3 : (lim W (a ^ i % m * (a ^ j % m))).length ≤ 20 := by
      refine lim_len_small hW0 ?_
      have h4 := Nat.mod_lt (a ^ i) hm
      have h5 := Nat.mod_lt (a ^ j) hm
      have : a ^ i % m * (a ^ j % m) ≤ 1000 * 1000 := Nat.mul_le_mul (by lia) (by lia)
      lia
    refine divrem_school_spec C (rm'.deeper.less (by lia)) hW0 hW hb (l3 _ _ ham3) (by lia) (Nat.le_trans (lim_len_small (k := 10) hW0 (by lia)) (by decide)) hm fun t q r hp4 l4 hr0 ht hr => ?_
    repeat ktr_rel
    refine sub_tup (i := 1) ht (by decide) rfl ?_
    repeat ktr_rel
    refine k _ _ (les_m (l3.trans l4)) ⟨r, rfl, ?_⟩ (e.trans (l3.trans l4))
    rw [hr, Nat.pow_add, ← Nat.mul_mod]
  repeat ktr_rel
  exact h f _ hp2 (fun a o ha e => lm _ _ ha (le _ _ e)) hT2 T Les.refl

theorem power_spec (C : CX prog w (hd.heap_1 w.params) h₁) (N : CN h₁ 129 125) (rm : Room A 12) {aa ae am : Addr} {W m a E size : Nat} (hs0 : 1 ≤ size) (hs1 : size ≤ 4) (hW0 : 0 < W) (hW : W ≤ 7) (hm : 0 < m) (hmb : m ≤ 1000) (hab : a ≤ 1000) (hEb : E ≤ 1000)
    (haa : hp aa = some (.list (iL (lim W a)))) (hae : hp ae = some (.list (iL (lim W E)))) (ham : hp am = some (.list (iL (lim W m)))) (hT : TabOk 125 ("divided_times" ++ ".<locals>." ++ "multiplied") 90 4 hp)
    (h : ∀ b hp', LesM (· = 125) hp hp' → TabOk 125 ("divided_times" ++ ".<locals>." ++ "multiplied") 90 4 hp' → hp' b = some (.list (iL (lim W (a ^ E % m)))) → Q (.ref b) hp') :
    CL prog w h₁ A (.ref 137) [.ref aa, .ref ae, .ref am, .int W, .int size, .ref 144, .ref 186] hp Q := by
  refine CV_fn C (xs := ["a", "e", "m", "w", "size", "mul", "divrem"]) rfl rfl (by have := rm.hd; omega) rfl ?_ rfl (by decide) (by decide) rfl rfl rfl ?_
  · rintro (_ | ⟨x0, _ | ⟨x1, _ | ⟨x2, _ | ⟨x3, _ | ⟨x4, _ | ⟨x5, _ | ⟨x6, _ | ⟨x7, r⟩⟩⟩⟩⟩⟩⟩⟩) hv <;> first | rfl | cases hv
  intro L
  have hh : A.handled = none := rm.hh
  have hlt : ∀ z, z ≤ 1000 → (lim W z).length ≤ 10 := fun z hz => lim_len_small hW0 (Nat.lt_of_le_of_lt hz (by decide))
  have la := hlt a hab
  have lE := hlt E hEb
  have lm := hlt m hmb
  obtain ⟨oT, hoT⟩ := hT.has
  have na : aa ≠ 125 := fun q => by rw [q, hoT] at haa; cases haa
  have ne : ae ≠ 125 := fun q => by rw [q, hoT] at hae; cases hae
  have nm : am ≠ 125 := fun q => by rw [q, hoT] at ham; cases ham
  repeat ktr_rel
  refine check_spec C (rm.deeper.less (by lia)) ham (lim_ne_nil hW0 hm) fun hp1 l1 => ?_
  refine ⟨rfl, ?_⟩
  repeat ktr_rel
  refine divrem_school_spec C (rm.deeper.less (by lia)) hW0 hW (l1 _ _ haa) (l1 _ _ ham) (by lia) (by lia) hm fun t q r hp2 l2 hr0 ht hr => ?_
  repeat ktr_rel
  refine sub_tup (i := 1) ht (by decide) rfl ?_
  repeat ktr_rel
  have l12 := l1.trans l2
  refine unit_spec C (rm.deeper.less (by lia)) hW0 hm (l12 _ _ ham) fun one hp3 l3 ho0 ho => ?_
  repeat ktr_rel
  have l13 := l12.trans l3
  refine divided_spec C N (rm.deeper.less (by lia)) a hW0 hW hm hmb (l13 _ _ ham) (hT.les l13) fun f Inv hp4 l4 hT4 T hi => ?_
  have hr3 := l3 _ _ hr
  have nT := (hT.les l13).has
  obtain ⟨oT3, hoT3⟩ := nT
  have hr4 := l4 _ _ (fun q => by rw [q, hoT3] at hr3; cases hr3) hr3
  have ho4 := l4 _ _ (fun q => by rw [q, hoT3] at ho; cases ho) ho
  have he4 := l4 _ _ ne (l13 _ _ hae)
  repeat ktr_rel
  refine by_windows_spec C (rm.deeper.less (by lia)) T hs0 hs1 hW0 hW he4 (by lia) (by lia) id hi ⟨r, rfl, by rw [Nat.pow_one]; exact hr4⟩ (fun _ => ⟨one, rfl, by rw [Nat.pow_zero]; exact ho4⟩) fun res hp5 lg l5 hres _ _ _ _ => ?_
  obtain ⟨b, rfl, hb⟩ := hres
  have l5' : Les hp4 hp5 := fun a o e => l5 _ _ id e
  repeat ktr_rel
  exact h b hp5 (fun a o ha e => l5' _ _ (l4 _ _ ha (l13 _ _ e))) (hT4.les l5') hb

end
section
variable {prog : Program} {w : World} {h₁ : Heap} {A : Around} {hp : Hp} {Q : AV → Hp → Prop}
theorem avail_pos {lg : List (Nat × Nat)} (h : ValidLog lg) : ∀ k ∈ avail lg, 0 < k := by
  induction h with
  | nil => intro k hk; simp [avail] at hk; lia
  | snoc _ hi hj ih =>
    intro k hk
    rw [avail_snoc, List.mem_append, List.mem_singleton] at hk
    rcases hk with hk | rfl
    · exact ih k hk
    · have := ih _ hi; lia
theorem valid_at {lg : List (Nat × Nat)} (h : ValidLog lg) : ∀ (i x y : Nat), lg[i]? = some (x, y) → x ∈ avail (lg.take i) ∧ y ∈ avail (lg.take i) := by
  induction h with
  | nil => intro i x y e; simp at e
  | @snoc lg i' j' _ hi hj ih =>
    intro i x y e
    by_cases q : i < lg.length
    · rw [List.getElem?_append_left q] at e
      rw [List.take_append_of_le_length (Nat.le_of_lt q)]
      exact ih i x y e
    · rw [List.getElem?_append_right (by lia)] at e
      have h0 : i - lg.length = 0 := by
        cases z : i - lg.length with
        | zero => rfl
        | succ n => rw [z] at e; simp at e
      rw [h0] at e; cases e
      have : i = lg.length := by lia
      rw [this, List.take_left']
      · exact ⟨hi, hj⟩
      · rfl
theorem avail_step {lg : List (Nat × Nat)} {i x y : Nat} (e : lg[i]? = some (x, y)) : avail (lg.take (i + 1)) = avail (lg.take i) ++ [x + y] := by
  rw [List.take_add_one, e]; exact avail_snoc
theorem avail_take {lg : List (Nat × Nat)} {i k : Nat} (h : k ∈ avail (lg.take i)) : k ∈ avail lg := by
  unfold avail at h ⊢
  rcases List.mem_cons.mp h with rfl | h
  · exact List.mem_cons_self
  · obtain ⟨p, hp, rfl⟩ := List.mem_map.mp h
    exact List.mem_cons_of_mem _ (List.mem_map_of_mem (f := fun p : Nat × Nat => p.1 + p.2) (List.mem_of_mem_take hp))
theorem rest_spec (C : CX prog w (hd.heap_1 w.params) h₁) (rm : Room A 2) {p : Addr} {ps : List AV} {lg : List (Nat × Nat)} {a E m : Nat} (hm : 0 < m) (hmb : m ≤ 1000) (hab : a ≤ 1000)
    (hp1 : hp p = some (.list ps)) (hpl : PL hp ps lg) (hv : ValidLog lg) (hl : lg.length ≤ 50000) (hE : E = 0 ∨ E ∈ avail lg)
    (h : ∀ hp', Les hp hp' → Q (.int ((a ^ E % m : Nat) : Int)) hp') :
    CL prog w h₁ A (.ref 214) [.ref p, .int a, .int E, .int m] hp Q := by
  refine CV_fn C (xs := ["pairs", "a", "e", "m"]) rfl rfl (by have := rm.hd; omega) rfl ?_ rfl (by decide) (by decide) rfl rfl rfl ?_
  · rintro (_ | ⟨x0, _ | ⟨x1, _ | ⟨x2, _ | ⟨x3, _ | ⟨x4, r⟩⟩⟩⟩⟩) hv <;> first | rfl | cases hv
  intro L
  have hh : A.handled = none := rm.hh
  ktr_rel
  ktr_rel
  refine EV_Dict2 C fun d hd0 => ?_
  repeat ktr_rel
  refine ⟨0, 1, rfl, rfl, by decide, up_same _ _ _, ?_⟩
  repeat ktr_rel
  refine SV_For_pairs (by exact hh) (fun i m' hp' => ∃ f, hp' d = some (.dict f (i + 2)) ∧ (∀ b o, hp b = some o → hp' b = some o) ∧ (∀ k : Nat, (k = 0 ∨ k ∈ avail (lg.take i)) → f k = some (.int ((a ^ k % m : Nat) : Int))) ∧ Sub [("worths", .ref d), ("e", .int E), ("m", .int m)] m') ?_
  repeat ktr_rel
  refine ⟨p, ps, rfl, ?_, ⟨_, up_same _ _ _, fun b o e => by rw [up_ne (ne_of_none e hd0), up_ne (ne_of_none e hd0)]; exact e, ?_, Sub.cons rfl (Sub.cons rfl (Sub.cons rfl Sub.nil))⟩, ?_, ?_⟩
  · rintro i m' hp' ⟨f, hf, le, hk, hs⟩
    refine ⟨le _ _ hp1, fun j z hz => ?_⟩
    obtain ⟨T, x, y, e1, e2, e3⟩ := hpl.2 j z hz
    exact ⟨T, _, _, e1, le _ _ e2⟩
  · intro k hk
    have h1 : (1 : Int).fmod (m : Int) = ((a ^ 0 % m : Nat) : Int) := by rw [Nat.pow_zero]; exact fmodN 1 m
    have h2 : (a : Int).fmod (m : Int) = ((a ^ 1 % m : Nat) : Int) := by rw [Nat.pow_one]; exact fmodN a m
    rcases hk with rfl | hk
    · show (if ((0 : Nat) : Int) = 0 then _ else _) = _
      rw [if_pos (by decide), h1]
    · have : k = 1 := by simpa [avail] using hk
      subst this
      show (if ((1 : Nat) : Int) = 0 then _ else if ((1 : Nat) : Int) = 1 then _ else _) = _
      rw [if_neg (by decide), if_pos (by decide), h2]
  · rintro i m' hp' T u v hi hT ⟨f, hf, le, hk, hs⟩
    obtain ⟨T', x, y, e, hT', hlg⟩ := hpl.2 i _ hi
    cases e
    have := le _ _ hT'
    rw [hT] at this
    cases this
    obtain ⟨hx, hy⟩ := valid_at hv i x y hlg
    have x0 : 0 < x := avail_pos hv x (avail_take hx)
    have y0 : 0 < y := avail_pos hv y (avail_take hy)
    have fx := hk x (.inr hx)
    have fy := hk y (.inr hy)
    have hil : i < ps.length := (List.getElem?_eq_some_iff.mp hi).1
    have hil2 := hpl.1
    refine SV_at hs.put.put Les.refl ?_
    repeat ktr_rel
    refine ⟨fun hc => absurd (of_decide_eq_true hc) (by lia), fun _ => ?_⟩
    repeat ktr_rel
    refine ⟨fun hc => absurd (of_decide_eq_true hc) (by lia), fun _ => ?_⟩
    repeat ktr_rel
    refine ⟨fun hc => (by rw [fx] at hc; exact Bool.noConfusion hc), fun _ => ?_⟩
    repeat ktr_rel
    refine ⟨fun hc => (by rw [fy] at hc; exact Bool.noConfusion hc), fun _ => ?_⟩
    repeat ktr_rel
    refine ⟨fun hc => Bool.noConfusion hc, fun _ => ?_⟩
    repeat ktr_rel
    refine sub_dict hf fx ?_
    repeat ktr_rel
    refine sub_dict hf fy ?_
    have b1 := Nat.mod_lt (a ^ x) hm
    have b2 := Nat.mod_lt (a ^ y) hm
    refine op_mul (.inl (by rw [Int.natAbs_natCast]; lia)) ?_
    repeat ktr_rel
    refine ⟨d, rfl, by rw [hf]; simp, fun vi vv hvi hvv => set_dict hf (by lia) hvi hvv ?_⟩
    repeat ktr_rel
    refine ⟨_, up_same _ _ _, fun b o e => by rw [up_ne (ne_of_none e hd0)]; exact le _ _ e, fun k hk' => ?_, Sub.cons rfl (Sub.cons rfl (Sub.cons rfl Sub.nil))⟩
    have exy : (x : Int) + (y : Int) = ((x + y : Nat) : Int) := by lia
    show (if (k : Int) = (x : Int) + (y : Int) then some _ else f k) = _
    by_cases q : k = x + y
    · rw [if_pos (by lia), q, Nat.pow_add, Nat.mul_mod, ← Int.natCast_mul, fmodN]
    · rw [if_neg (by lia)]
      refine hk k (hk'.imp id fun z => ?_)
      rw [avail_step hlg, List.mem_append, List.mem_singleton] at z
      exact z.resolve_right q
  · rintro m' hp' ⟨f, hf, le, hk, hs⟩
    have fe : f (E : Int) = some (.int ((a ^ E % m : Nat) : Int)) := hk E (hE.imp id fun z => by
      rw [List.take_of_length_le (by rw [hpl.1]; exact Nat.le_refl _)]; exact z)
    refine SV_at hs Les.refl ?_
    repeat ktr_rel
    refine EV_IfExp ?_
    repeat ktr_rel
    refine ⟨fun hc => ?_, fun hc => (by rw [fe] at hc; exact Bool.noConfusion hc)⟩
    repeat ktr_rel
    refine sub_dict hf fe ?_
    repeat ktr_rel
    exact h _ le

end
section
variable {prog : Program} {w : World} {h₁ : Heap} {A : Around} {hp : Hp} {Q : AV → Hp → Prop}
theorem TabOk.lesP {P P' : Addr} {qual qual' : Str} {ln co ln' co' : Int} {hp hp' : Hp} (hne : P ≠ P') (x : TabOk P qual ln co hp) (y : TabOk P' qual' ln' co' hp) (k : LesM (· = P') hp hp') : TabOk P qual ln co hp' := by
  rcases x with e | ⟨c', oc, fs, t, a, e, e2, e3, e4⟩
  · exact .inl (k _ _ hne e)
  · refine .inr ⟨c', oc, fs, t, k _ _ hne a, k _ _ (fun q => ?_) e, e2, e3, e4⟩
    rw [q] at e
    rcases y with z | ⟨c2, oc2, fs2, t2, z, _⟩
    · rw [z] at e; cases e; cases e2; cases e3
    · rw [z] at e; cases e; cases e2; cases e3
theorem TabOk.tab {P : Addr} {qual : Str} {ln co : Int} {hp : Hp} (x : TabOk P qual ln co hp) : ∃ ps, hp P = some (.obj (tabObj ps)) := by
  rcases x with e | ⟨c', oc, fs, t, a, e, r⟩
  · exact ⟨_, e⟩
  · exact ⟨_, a⟩
structure OKs (t D : Addr) (gs : List Int) (k : Nat) (hp : Hp) : Prop where
  a : hp t = some (.list [.int (k : Int), .ref D])
  b : hp D = some (.list (iL gs))
  c : TabOk 202 ("_law_chain" ++ ".<locals>." ++ "taken") 173 4 hp
  d : TabOk 125 ("divided_times" ++ ".<locals>." ++ "multiplied") 90 4 hp
  ne : D ≠ t
theorem OKs.les {t D : Addr} {gs : List Int} {k : Nat} {hp hp' : Hp} (o : OKs t D gs k hp) (l : Les hp hp') : OKs t D gs k hp' := ⟨l _ _ o.a, l _ _ o.b, o.c.les l, o.d.les l, o.ne⟩
theorem OKs.step {t D : Addr} {gs : List Int} {k : Nat} {hp hp' : Hp} (o : OKs t D gs k hp) (l : LesM (· = t) hp hp') (e : hp' t = some (.list [.int ((k + 1 : Nat) : Int), .ref D])) : OKs t D gs (k + 1) hp' := ⟨e, l _ _ o.ne o.b, o.c.lesB o.a l, o.d.lesB o.a l, o.ne⟩
theorem sl_upto' {xs : List AV} {b : Nat} : ∀ vs : List Value, VRs xs vs → VRs (xs.take b) (slicePick vs.toArray none (some (b : Int)) none).toList := fun vs r => by
  rw [slicePick_upto' _ _]
  simpa using r.take b
end
theorem law_join {prog : Program} {w : World} {A : Around} {g : Heap} {L l : Addr} {mm : Str → Option Value} {s : Shared} {t : Sem Flow} {Q : Flow → Shared → Prop} {E : Value → Shared → Prop} {p : Program} {loose : List Str} {mean : ExcName → Option Value} {mg mb : Str → Option Value} {K : Frag} {vs : List Value} {ns : List Int}
    (X : K.In g) (T : Top p loose mean mg mb g) (c1 : CodeHd g 206 202) (c2 : CodeHd g 129 125) (hli : g.IsList l vs.toArray) (hI : IntsAre vs ns) (hlen : ns.length ≤ 63) (F : Fr g L s.heap mm) (N : News g L s.heap [(202, tabObj #[]), (125, tabObj #[])]) (hm : mm "script" = some (.ref l))
    (hsv : ∀ (l : Addr) (vs : List Value) (ns : List Int), CX prog w K g → CN g 206 202 → CN g 129 125 → g.IsList l vs.toArray → IntsAre vs ns → ns.length ≤ 63 → ∀ hp : Hp, hp 202 = some (.obj (tabObj #[])) → hp 125 = some (.obj (tabObj #[])) → SV prog w g A L [("script", .ref l)] t hp fun fl m' hp' => fl = .ret (.bool true) ∧ ∃ p1 p2, hp' 202 = some (.obj (tabObj p1)) ∧ hp' 125 = some (.obj (tabObj p2)))
    (fin : ∀ h' tk m', Fr g L h' m' → GrownAt 202 h' → GrownAt 125 h' → Q (.ret (.bool true)) { s with heap := h', toks := tk }) :
    wpAny (model prog w) A t Q E s := by
  have n1 := N (202, tabObj #[]) (by simp)
  have n2 := N (125, tabObj #[]) (by simp)
  let hp : Hp := fun a => if a = 202 then some (.obj (tabObj #[])) else if a = 125 then some (.obj (tabObj #[])) else none
  have hST : ST prog w (fun a => g.get? a) L [("script", .ref l)] hp s.heap := by
    refine ⟨⟨fun a o e => F.keep a o e, fun a o e => ?_⟩, ⟨mm, F.ns, fun y v e => ?_⟩, Heap.get?_none_of_le F.above, ?_⟩
    · simp only [hp] at e
      split at e
      · rename_i q; subst q; cases e; exact ⟨n1.2.2, n1.1⟩
      · split at e
        · rename_i q; subst q; cases e; exact ⟨n2.2.2, n2.1⟩
        · cases e
    · rw [lookup_put] at e
      by_cases q : y = "script"
      · subst q; simp at e; subst e; exact ⟨_, hm, rfl⟩
      · rw [if_neg q] at e; cases e
    · simp only [hp]; rw [if_neg n1.2.1.symm, if_neg n2.2.1.symm]
  have bm : ∃ mg bm ob, g.Ns mainGlobals mg ∧ mg "__builtins__" = some (.ref bm) ∧ bm ≠ builtinsNs ∧ g.get? bm = some ob ∧ ob.cls = .type "module" ∧ ob.dict = some builtinsNs ∧ ob.data = .plain := by
    obtain ⟨bm, ob, r⟩ := T.bmain
    exact ⟨mg, bm, ob, T.g, r⟩
  refine wpAny_mono (hsv l vs ns ⟨X, T.nolimit, ⟨_, T.g⟩, ⟨_, T.b, T.builtins⟩⟩ ⟨c1, bm⟩ ⟨c2, bm⟩ hli hI hlen hp (by simp [hp]) (by simp [hp]) _ s (fun a o e => e) hST) (fun f s' ⟨af, m', hp', h', tk', e, T, R, e1, p1, p2, q1, q2⟩ => ?_) fun _ _ z => z.elim
  subst e e1
  obtain ⟨v, rfl, e2⟩ := R
  cases e2
  obtain ⟨mc, n, _⟩ := T.frm
  exact fin h' tk' mc ⟨n, fun b o e => T.hr.fz b o e, F.above⟩ ⟨p1, (T.hr.ob _ _ q1).2⟩ ⟨p2, (T.hr.ob _ _ q2).2⟩
section

end
section
variable {prog : Program} {w : World} {h₁ : Heap} {A : Around} {hp : Hp} {Q : AV → Hp → Prop}
end
theorem law_holds : PySem.Challenge.rw_tk0048_01.Holds := hd (by
  k_go0
  refine law_join (by with_reducible assumption) (by with_reducible assumption) (by assumption) (by assumption) (by with_reducible assumption) (by with_reducible assumption) (by lia) (by with_reducible assumption) (by with_reducible assumption) rfl ?_ ?_
  rotate_left
  · intro h' tk m' F1 g1 g2
    refine ⟨?_, g1, g2, trivial⟩
    wrow_close
  intro l vs ns C N1 N2 hli hI hlen hp t1 t2
  dsimp only
  have rm : ∀ e, Room (callerA.deeper e) 14 := fun e => ⟨rfl, by show callerA.depth + 1 + 14 < recursionLimit; decide, by show callerA.units + 3 + 16 * 14 < cLine; decide⟩
  have hT1 : TabOk 202 ("_law_chain" ++ ".<locals>." ++ "taken") 173 4 hp := .inl t1
  have hT2 : TabOk 125 ("divided_times" ++ ".<locals>." ++ "multiplied") 90 4 hp := .inl t2
  refine SV_cons (SV_Assign (EV_List (EVs_cons (EV_int (EVs_cons (EV_CompAbs C rfl (nabs _) (nint _) babs bint rfl (by decide) rfl (by decide) rfl rfl rfl rfl rfl (EV_SliceF ?_)))))))
  repeat ktr_rel
  refine ⟨_, _, _, _, rfl, hli, vrs_ints hI, by rw [iL_len]; lia, fun vs r => sl_upto' (b := 6) vs r, fun b hb => ?_⟩
  refine ⟨b, _, rfl, by rw [up_same, ← List.map_take], by rw [List.length_take]; lia, fun D hD => ?_⟩
  have hgs : ((List.take 6 ns).map absI).length ≤ 6 := by rw [List.length_map, List.length_take]; lia
  have hDb : D ≠ b := fun q => by rw [q, up_same] at hD; cases hD
  have hDp : hp D = none := by rw [up_ne hDb] at hD; exact hD
  repeat ktr_rel
  refine ⟨by simp, fun t ht => ?_⟩
  have o0 : OKs t D ((List.take 6 ns).map absI) 0 (up (up (up hp b (.list (List.take 6 (iL ns)))) D (.list (iL ((List.take 6 ns).map absI)))) t (.list [.int 0, .ref D])) := by
    have l1 : Les hp (up hp b (.list (List.take 6 (iL ns)))) := Les.refl.new hb
    have l2 := l1.new (o := .list (iL ((List.take 6 ns).map absI))) hDp
    have hDt : D ≠ t := fun q => by rw [q, up_same] at ht; cases ht
    have l3 := l2.new (o := .list [.int 0, .ref D]) (Les.none l2 ht)
    exact ⟨up_same _ _ _, by rw [up_ne hDt, up_same], hT1.les l3, hT2.les l3, hDt⟩
  generalize up (up (up hp b (.list (List.take 6 (iL ns)))) D (.list (iL ((List.take 6 ns).map absI)))) t (.list [.int 0, .ref D]) = hp0 at o0
  generalize (List.take 6 ns).map absI = gs at hgs o0
  clear hT1 hT2 t1 t2 hD hDp hDb ht hb hli hI hlen
  repeat ktr_rel
  refine SV_AsgSw3 rfl ?_
  repeat ktr_rel
  refine sifted_spec C ((rm _).less (by decide)) (k := 0) (many := 6) (by decide) (by decide) o0.a o0.b (by lia) fun r0 hr0 hp1 lm ht1 => ?_
  have o1 := o0.step lm ht1
  clear o0 lm ht1
  repeat ktr_rel
  refine sifted_spec C ((rm _).less (by decide)) (k := 1) (many := 4) (by decide) (by decide) o1.a o1.b (by lia) fun r1 hr1 hp2 lm ht1 => ?_
  have o2 := o1.step lm ht1
  clear o1 lm ht1
  repeat ktr_rel
  refine sifted_spec C ((rm _).less (by decide)) (k := 2) (many := 600) (by decide) (by decide) o2.a o2.b (by lia) fun E hE hp3 lm ht1 => ?_
  have o3 := o2.step lm ht1
  clear o2 lm ht1
  repeat ktr_rel
  refine ⟨by simp, fun T hT => ⟨T, _, _, _, rfl, up_same _ _ _, ?_⟩⟩
  have eW : (2 : Int) + (r0 : Int) = ((2 + r0 : Nat) : Int) := by lia
  have eS : (1 : Int) + (r1 : Int) = ((1 + r1 : Nat) : Int) := by lia
  rw [eW, eS]
  have o3 := o3.les (Les.refl.new (o := .tup [.int ((2 + r0 : Nat) : Int), .int ((1 + r1 : Nat) : Int), .int (E : Int)]) hT)
  generalize up hp3 T (.tup [.int ((2 + r0 : Nat) : Int), .int ((1 + r1 : Nat) : Int), .int (E : Int)]) = hp4 at o3
  clear hT
  obtain ⟨W, hWe⟩ : ∃ W, W = 2 + r0 := ⟨_, rfl⟩
  obtain ⟨S, hSe⟩ : ∃ S, S = 1 + r1 := ⟨_, rfl⟩
  rw [← hWe, ← hSe]
  repeat ktr_rel
  refine SV_AsgSw2 rfl ?_
  repeat ktr_rel
  refine sifted_spec C ((rm _).less (by decide)) (k := 3) (many := 97) (by decide) (by decide) o3.a o3.b (by lia) fun r3 hr3 hp5 lm ht1 => ?_
  have o4 := o3.step lm ht1
  clear o3 lm ht1
  repeat ktr_rel
  refine sifted_spec C ((rm _).less (by decide)) (k := 4) (many := 97) (by decide) (by decide) o4.a o4.b (by lia) fun a ha hp6 lm ht1 => ?_
  have o5 := o4.step lm ht1
  clear o4 lm ht1
  repeat ktr_rel
  refine ⟨by simp, fun T hT => ⟨T, _, _, rfl, up_same _ _ _, ?_⟩⟩
  have eM : (2 : Int) + (r3 : Int) = ((2 + r3 : Nat) : Int) := by lia
  rw [eM]
  have o5 := o5.les (Les.refl.new (o := .tup [.int ((2 + r3 : Nat) : Int), .int (a : Int)]) hT)
  generalize up hp6 T (.tup [.int ((2 + r3 : Nat) : Int), .int (a : Int)]) = hp7 at o5
  clear hT
  obtain ⟨m, hme⟩ : ∃ m, m = 2 + r3 := ⟨_, rfl⟩
  rw [← hme]
  repeat ktr_rel
  refine SV_For_tupA rfl (fun tt xs i m' hp' => hp' tt = some (.tup xs) ∧ TabOk 202 ("_law_chain" ++ ".<locals>." ++ "taken") 173 4 hp' ∧ TabOk 125 ("divided_times" ++ ".<locals>." ++ "multiplied") 90 4 hp' ∧ Sub [("w", .int W), ("e", .int E), ("m", .int m), ("a", .int a)] m') ?_
  repeat ktr_rel
  refine sifted_spec C ((rm _).less (by decide)) (k := 5) (many := 4) (by decide) (by decide) o5.a o5.b (by lia) fun r5 hr5 hp8 lm ht1 => ?_
  have o6 := o5.step lm ht1
  clear o5 lm ht1
  repeat ktr_rel
  have e5 : (1 : Int) + (r5 : Int) = ((1 + r5 : Nat) : Int) := by lia
  rw [e5]
  refine ⟨by simp, fun tt htt => ⟨tt, _, rfl, fun i m hp q => q.1, ⟨up_same _ _ _, o6.c.les (Les.refl.new htt), o6.d.les (Les.refl.new htt), Sub.cons rfl (Sub.cons rfl (Sub.cons rfl (Sub.cons rfl Sub.nil)))⟩, ?_, ?_⟩⟩
  · rintro i m' hpa v hv ⟨hta, c1, c2, hs⟩
    obtain ⟨wd, rfl, w1, w2⟩ : ∃ wd : Nat, v = .int wd ∧ 1 ≤ wd ∧ wd ≤ 4 := by
      match i, hv with
      | 0, hv => cases hv; exact ⟨S, rfl, by lia, by lia⟩
      | 1, hv => cases hv; exact ⟨1 + r5, rfl, by lia, by lia⟩
      | n + 2, hv => simp at hv
    clear hv
    refine SV_at hs.put Les.refl ?_
    ktr_rel
    refine SV_AsgTup2 rfl ?_
    repeat ktr_rel
    refine chain_spec C N1 ((rm _).less (by decide)) w1 w2 (by lia) (by lia) (by lia) c1 fun T p ps lg hpb lb c1b hTb hpb' hpl hvl q1 q2 => ⟨T, _, _, rfl, hTb, ?_⟩
    obtain ⟨o202, ho202⟩ := c1.has
    have htb := lb _ _ (fun q => by rw [q, ho202] at hta; cases hta) hta
    have c2b := c2.lesP (by decide) c1 lb
    clear lb c1 c2 hta hTb ho202
    have hbound : lg.length ≤ 50000 := by
      rcases Nat.eq_zero_or_pos E with z | z
      · rw [q1 z]; simp
      · obtain ⟨_, nb, wn, z1, z2, z3, z4⟩ := q2 z
        have : nb < 2 ^ nb := Nat.lt_two_pow_self
        have p1 : 2 ^ (wd - 1) ≤ 8 := by
          have : ∀ k, k ≤ 3 → 2 ^ k ≤ 8 := by decide
          exact this _ (by lia)
        have := Nat.le_mul_of_pos_right wn w1
        lia
    have hpsl : ps.length ≤ 50000 := by rw [hpl.1]; exact hbound
    repeat ktr_rel
    refine ⟨fun hc => absurd (of_decide_eq_true hc) (by simp), fun _ => ?_⟩
    repeat ktr_rel
    refine most_spec C ((rm _).less (by decide)) w1 w2 fun r z0 z1 hpc lc => ?_
    have hle : ps.length ≤ r := by
      rw [hpl.1]
      rcases Nat.eq_zero_or_pos E with z | z
      · rw [q1 z]; simp
      · obtain ⟨_, nb, wn, y1, y2, y3, y4⟩ := q2 z
        have y5 := z1 nb y1 y2
        have y6 : wn ≤ (nb + wd) / wd := (Nat.le_div_iff_mul_le (by lia)).mpr y4
        lia
    have hE' : E = 0 ∨ E ∈ avail lg := by
      rcases Nat.eq_zero_or_pos E with z | z
      · exact .inl z
      · exact .inr (q2 z).1
    clear q1 q2 z0 z1
    have htc := lc _ _ htb
    have hpc' := lc _ _ hpb'
    have c1c := c1b.les lc
    have c2c := c2b.les lc
    have hplc : PL hpc ps lg := ⟨hpl.1, fun k z q => by obtain ⟨T, i, j, a, b, c⟩ := hpl.2 k z q; exact ⟨T, i, j, a, lc _ _ b, c⟩⟩
    clear lc htb hpb' c1b c2b hpl
    repeat ktr_rel
    refine ⟨fun hc => absurd (of_decide_eq_true hc) (by lia), fun _ => ?_⟩
    repeat ktr_rel
    refine ⟨fun hc => Bool.noConfusion hc, fun _ => ?_⟩
    repeat ktr_rel
    refine rest_spec C ((rm _).less (by decide)) (by lia) (by lia) (by lia) hpc' hplc hvl hbound hE' fun hpd ld => ?_
    have hrb : a ^ E % m < m := Nat.mod_lt _ (by lia)
    generalize hR : a ^ E % m = R at hrb
    have htd := ld _ _ htc
    have c1d := c1c.les ld
    have c2d := c2c.les ld
    clear ld htc hpc' c1c c2c hplc
    repeat ktr_rel
    refine ⟨fun hc => absurd (show false = true from hc) (by decide), fun _ => ?_⟩
    repeat ktr_rel
    refine limbs_spec C ((rm _).less (by decide)) (by lia) (by lia) (by lia) fun aa hpe le1 _ haa => ?_
    repeat ktr_rel
    refine limbs_spec C ((rm _).less (by decide)) (by lia) (by lia) (by lia) fun ae hpf le2 _ hae => ?_
    repeat ktr_rel
    refine limbs_spec C ((rm _).less (by decide)) (by lia) (by lia) (by lia) fun am hpg le3 _ ham => ?_
    have le23 := le2.trans le3
    have le13 := le1.trans le23
    have htg := le13 _ _ htd
    have c1g := c1d.les le13
    have c2g := c2d.les le13
    have haa := le23 _ _ haa
    have hae := le3 _ _ hae
    clear le1 le2 le3 le23 le13 htd c1d c2d
    repeat ktr_rel
    refine power_spec C N2 ((rm _).less (by decide)) w1 w2 (by lia) (by lia) (by lia) (by lia) (by lia) (by lia) haa hae ham c2g fun bb hph lh c2h hbb => ?_
    rw [hR] at hbb
    obtain ⟨o125, ho125⟩ := c2g.has
    have hth := lh _ _ (fun q => by rw [q, ho125] at htg; cases htg) htg
    have c1h := c1g.lesP (by decide) c2g lh
    clear lh c1g c2g htg ho125
    repeat ktr_rel
    refine limbs_spec C ((rm _).less (by decide)) (by lia) (by lia) (by lia) fun ar hpi li _ har => ?_
    repeat ktr_rel
    refine cm_lne (by show callerA.units + 3 + 64 < cLine; decide) (li _ _ hbb) har ?_
    refine ⟨_, rfl, fun hc => absurd rfl (of_decide_eq_true hc), fun _ => ?_⟩
    repeat ktr_rel
    exact ⟨li _ _ hth, c1h.les li, c2h.les li, Sub.cons rfl (Sub.cons rfl (Sub.cons rfl (Sub.cons rfl Sub.nil)))⟩
  · rintro m' hpa ⟨hta, c1, c2, hs⟩
    refine SV_at hs Les.refl ?_
    obtain ⟨p1, h1⟩ := c1.tab
    obtain ⟨p2, h2⟩ := c2.tab
    repeat ktr_rel
    exact ⟨rfl, p1, p2, h1, h2⟩)
section

end
end Mine
theorem PySem.Challenge.cw_tk0048_01_holds : PySem.Challenge.rw_tk0048_01.Holds := by
  exact Mine.law_holds
