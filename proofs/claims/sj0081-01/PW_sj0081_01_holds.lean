import PyProof.Rows.All
import Wide.All
import OpenK.AllK
import Wide.FinOn
import PySem.Challenge.RW_sj0081_01
open PySem PySem.W PyProof.Rows
set_option Elab.async false
set_option linter.unusedVariables false
set_option linter.unusedSimpArgs false
set_option maxRecDepth 100000
def Mine.vw : Program := { PySem.Challenge.pw_sj0081_01 with main := { PySem.Challenge.pw_sj0081_01.main with body := PySem.Challenge.pw_sj0081_01.main.body.filter (fun s => match s with | .Assign .. => false | _ => true) } }
namespace Mine

/-! ## Base1 -/

/-- a value without the marks of its making -/
inductive V where
  | none
  | bool (b : Bool)
  | int (i : Int)
  | ref (a : Addr)
  | other

def er : Value → V
  | .none => .none
  | .bool b => .bool b
  | .int i _ => .int i
  | .ref a => .ref a
  | _ => .other

theorem er_int {v : Value} {i : Int} (h : er v = .int i) : ∃ t, v = .int i t := by
  cases v <;> simp [er] at h
  exact ⟨_, by rw [h]⟩
theorem er_bool {v : Value} {b : Bool} (h : er v = .bool b) : v = .bool b := by
  cases v <;> simp [er] at h
  rw [h]
theorem er_ref {v : Value} {a : Addr} (h : er v = .ref a) : v = .ref a := by
  cases v <;> simp [er] at h
  rw [h]
theorem er_none {v : Value} (h : er v = .none) : v = .none := by
  cases v <;> simp [er] at h
  rfl

inductive MO where
  | list (vs : List V)
  | tup (vs : List V)

abbrev ST := Addr → Option MO
abbrev LM := List (Str × V)

def HoldsO (h : Heap) (a : Addr) : MO → Prop
  | .list vs => ∃ (cvs : Array Value) (n : Nat), h.get? a = some ({ cls := .type "list", data := .seq cvs n } : Obj) ∧ cvs.toList.map er = vs
  | .tup vs => ∃ (cvs : Array Value) (n : Nat), h.get? a = some ({ cls := .type "tuple", data := .seq cvs n } : Obj) ∧ cvs.toList.map er = vs

theorem HoldsO.at {h h' : Heap} {a : Addr} {o : MO} (H : HoldsO h a o) (e : ∀ ob, h.get? a = some ob → h'.get? a = some ob) : HoldsO h' a o := by
  cases o with
  | list vs => obtain ⟨c, n, x, y⟩ := H; exact ⟨c, n, e _ x, y⟩
  | tup vs => obtain ⟨c, n, x, y⟩ := H; exact ⟨c, n, e _ x, y⟩
theorem HoldsO.some {h : Heap} {a : Addr} {o : MO} (H : HoldsO h a o) : ∃ ob, h.get? a = some ob := by
  cases o with
  | list vs => obtain ⟨c, n, x, y⟩ := H; exact ⟨_, x⟩
  | tup vs => obtain ⟨c, n, x, y⟩ := H; exact ⟨_, x⟩
theorem HoldsO.lt {h : Heap} {a : Addr} {o : MO} (H : HoldsO h a o) : a < h.objs.size := let ⟨_, e⟩ := H.some; Heap.lt_size e

/-- a frame over a base: its locals, the base kept -/
structure Fm (g : Heap) (L : Addr) (h : Heap) (mc : Str → Option Value) : Prop where
  ns : h.Ns L mc
  keep : ∀ b o, g.get? b = some o → h.get? b = some o
  low : g.get? L = none
theorem Fm.push {g h : Heap} {L : Addr} {mc : Str → Option Value} (F : Fm g L h mc) (o : Obj) : Fm g L (h.push o) mc := ⟨F.ns.push o, fun b ob e => Heap.get?_push_of_some o (F.keep b ob e), F.low⟩
theorem Fm.set {g h h' : Heap} {L : Addr} {mc mc' : Str → Option Value} (F : Fm g L h mc) (hn : h'.Ns L mc') (hs : Heap.SameBut L h h') : Fm g L h' mc' :=
  ⟨hn, fun b o e => (hs.2 b (fun q => by rw [q, F.low] at e; cases e)).trans (F.keep b o e), F.low⟩

structure Rel (g : Heap) (L : Addr) (m : LM) (σ : ST) (h : Heap) : Prop where
  fr : ∃ mc, Fm g L h mc ∧ ∀ x v, m.lookup x = some v → ∃ cv, mc x = some cv ∧ er cv = v
  own : ∀ a o, σ a = some o → HoldsO h a o ∧ a ≠ L ∧ g.get? a = Option.none

/-- what holds of the program's names, whatever the heap behind it -/
structure Cx where
  prog : Program
  w : World
  s₀ : Shared
  mg : Str → Option Value
  mb : Str → Option Value

def shared (C : Cx) (h : Heap) (tk : Nat) : Shared := { C.s₀ with heap := h, toks := tk }

def Post (C : Cx) (g : Heap) (L : Addr) {α : Type} (Q : α → LM → ST → Prop) (a : α) (s' : Shared) : Prop :=
  ∃ h' tk' m' σ', s' = shared C h' tk' ∧ Rel g L m' σ' h' ∧ Q a m' σ'

def W (C : Cx) (A : Around) (g : Heap) (L : Addr) (E : Value → Shared → Prop) (m : LM) (σ : ST) {α : Type} (t : Sem α) (Q : α → LM → ST → Prop) : Prop :=
  ∀ h tk, Rel g L m σ h → wpAny (model C.prog C.w) A t (Post C g L Q) E (shared C h tk)

/-- for trees of values: what is asked of the value is asked of it without its marks -/
def WE (C : Cx) (A : Around) (g : Heap) (L : Addr) (E : Value → Shared → Prop) (m : LM) (σ : ST) (t : Sem Value) (Q : V → LM → ST → Prop) : Prop :=
  W C A g L E m σ t (fun v => Q (er v))

section
variable {C : Cx} {A : Around} {g : Heap} {L : Addr} {E : Value → Shared → Prop} {m : LM} {σ : ST} {α β : Type}

theorem Post.mono {Q Q' : α → LM → ST → Prop} {a : α} {s : Shared} (h : Post C g L Q a s) (hq : ∀ a m σ, Q a m σ → Q' a m σ) : Post C g L Q' a s :=
  let ⟨h', tk', m', σ', e, R, q⟩ := h; ⟨h', tk', m', σ', e, R, hq _ _ _ q⟩

theorem W_mono {t : Sem α} {Q Q' : α → LM → ST → Prop} (h : W C A g L E m σ t Q) (hq : ∀ a m σ, Q a m σ → Q' a m σ) : W C A g L E m σ t Q' :=
  fun hh tk R => wpAny_mono (h hh tk R) (fun _ _ p => p.mono hq) fun _ _ x => x
theorem go {t : Sem α} {Q : α → LM → ST → Prop} {P : α → Shared → Prop} {E' : Value → Shared → Prop} {s : Shared} (h : wpAny (model C.prog C.w) A t (Post C g L Q) E s)
    (k : ∀ v h₁ tk₁ m₁ σ₁, Rel g L m₁ σ₁ h₁ → Q v m₁ σ₁ → P v (shared C h₁ tk₁)) (kE : ∀ v s, E v s → E' v s) : wpAny (model C.prog C.w) A t P E' s :=
  wpAny_mono h (fun _ _ ⟨_, _, _, _, e, R, q⟩ => e ▸ k _ _ _ _ _ R q) kE
theorem WE_mono {t : Sem Value} {Q Q' : V → LM → ST → Prop} (h : WE C A g L E m σ t Q) (hq : ∀ a m σ, Q a m σ → Q' a m σ) : WE C A g L E m σ t Q' :=
  W_mono h fun _ _ _ q => hq _ _ _ q

/-- a rule of the library whose one premise is a tree with a tree behind it -/
theorem lift1 {t : Sem α} {f : α → Sem β} {Q : β → LM → ST → Prop} (h : W C A g L E m σ t (fun a m' σ' => W C A g L E m' σ' (f a) Q)) {hh : Heap} {tk : Nat} (R : Rel g L m σ hh) :
    wpAny (model C.prog C.w) A t (fun a s₁ => wpAny (model C.prog C.w) A (f a) (Post C g L Q) E s₁) E (shared C hh tk) :=
  wpAny_mono (h hh tk R) (fun a s₁ ⟨h', tk', m', σ', e, R', q⟩ => e ▸ q h' tk' R') fun _ _ x => x

theorem W_bind {t : Sem α} {f : α → Sem β} {Q : β → LM → ST → Prop} (h : W C A g L E m σ t (fun a m' σ' => W C A g L E m' σ' (f a) Q)) : W C A g L E m σ (t >>= f) Q :=
  fun _ _ R => wpAny_bind (lift1 h R)
theorem W_pure {a : α} {Q : α → LM → ST → Prop} (h : Q a m σ) : W C A g L E m σ (pure a) Q :=
  fun hh tk R => wpAny_pure ⟨hh, tk, m, σ, rfl, R, h⟩

/-- the frame's names may be forgotten -/
def Sub (m' m : LM) : Prop := ∀ x v, m'.lookup x = some v → m.lookup x = some v
theorem Sub.refl (m : LM) : Sub m m := fun _ _ h => h
theorem Sub.nil (m : LM) : Sub [] m := fun _ _ h => by cases h
theorem Sub.cons {x : Str} {v : V} {m' m : LM} (h : m.lookup x = some v) (hs : Sub m' m) : Sub ((x, v) :: m') m := fun y u hy => by
  rw [List.lookup_cons] at hy
  cases e : (y == x) with
  | true => rw [e] at hy; cases hy; rw [beq_iff_eq.mp e]; exact h
  | false => rw [e] at hy; exact hs y u hy
theorem Sub.drop {x : Str} {v : V} {m' m : LM} (h : m'.lookup x = none) (hs : Sub m' m) : Sub m' ((x, v) :: m) := fun y u hy => by
  rw [List.lookup_cons]
  cases e : (y == x) with
  | true => rw [beq_iff_eq.mp e, h] at hy; cases hy
  | false => exact hs y u hy
theorem Rel.sub {m' : LM} {h : Heap} (R : Rel g L m σ h) (hs : Sub m' m) : Rel g L m' σ h :=
  ⟨let ⟨mc, F, k⟩ := R.fr; ⟨mc, F, fun x v e => k x v (hs x v e)⟩, R.own⟩
theorem W_sub {m' : LM} {t : Sem α} {Q : α → LM → ST → Prop} (hs : Sub m' m) (h : W C A g L E m' σ t Q) : W C A g L E m σ t Q :=
  fun hh tk R => h hh tk (R.sub hs)

/-- the heap's facts may be forgotten -/
def Le (σ σ' : ST) : Prop := ∀ a o, σ a = some o → σ' a = some o
theorem Le.refl (σ : ST) : Le σ σ := fun _ _ h => h
theorem Le.trans {a b c : ST} (x : Le a b) (y : Le b c) : Le a c := fun _ _ h => y _ _ (x _ _ h)
theorem Rel.le {σ' : ST} {h : Heap} (R : Rel g L m σ h) (hs : Le σ' σ) : Rel g L m σ' h := ⟨R.fr, fun a o e => R.own a o (hs a o e)⟩
theorem W_le {σ' : ST} {t : Sem α} {Q : α → LM → ST → Prop} (hs : Le σ' σ) (h : W C A g L E m σ' t Q) : W C A g L E m σ t Q :=
  fun hh tk R => h hh tk (R.le hs)

def upd (σ : ST) (a : Addr) (o : MO) : ST := fun b => if b = a then some o else σ b
theorem upd_same (σ : ST) (a : Addr) (o : MO) : upd σ a o a = some o := by simp [upd]
theorem upd_ne {σ : ST} {a b : Addr} {o : MO} (h : b ≠ a) : upd σ a o b = σ b := by simp [upd, h]
theorem Le.upd {σ₀ σ : ST} {a : Addr} {o : MO} (h : Le σ₀ σ) (hn : σ₀ a = none) : Le σ₀ (upd σ a o) := fun b ob e => by
  by_cases hb : b = a
  · subst hb; rw [hn] at e; cases e
  · rw [upd_ne hb]; exact h b ob e
theorem upd_fresh {σ : ST} {a b : Addr} {o ob : MO} (hn : σ a = none) (h : σ b = some ob) : upd σ a o b = some ob := by
  rw [upd_ne (fun e => by rw [e, hn] at h; cases h)]; exact h

theorem lookup_cons_self {x : Str} {v : V} {m : LM} : List.lookup x ((x, v) :: m) = some v := by simp [List.lookup]

/-- the frame's own steps -/
theorem Rel.push {h : Heap} (R : Rel g L m σ h) (o : Obj) : Rel g L m σ (h.push o) := by
  obtain ⟨⟨mc, F, k⟩, own⟩ := R
  exact ⟨⟨mc, F.push o, k⟩, fun a ob e => ⟨(own a ob e).1.at fun _ x => Heap.get?_push_of_some _ x, (own a ob e).2⟩⟩

theorem Rel.size_fresh {h : Heap} (R : Rel g L m σ h) : σ h.objs.size = none := by
  cases e : σ h.objs.size with
  | none => rfl
  | some o => exact absurd (R.own _ _ e).1.lt (Nat.lt_irrefl _)
theorem Rel.g_fresh {h : Heap} (R : Rel g L m σ h) : g.get? h.objs.size = none := by
  obtain ⟨mc, F, _⟩ := R.fr
  cases e : g.get? h.objs.size with
  | none => rfl
  | some o => exact absurd (Heap.lt_size (F.keep _ _ e)) (Nat.lt_irrefl _)
theorem Rel.ltL {h : Heap} (R : Rel g L m σ h) : L < h.objs.size := let ⟨_, F, _⟩ := R.fr; F.ns.lt

theorem Rel.alloc {h : Heap} {o : Obj} {mo : MO} (R : Rel g L m σ h) (ho : HoldsO (h.push o) h.objs.size mo) : Rel g L m (upd σ h.objs.size mo) (h.push o) := by
  refine ⟨(R.push o).fr, fun a ob e => ?_⟩
  by_cases ha : a = h.objs.size
  · subst ha
    rw [upd_same] at e; cases e
    exact ⟨ho, Nat.ne_of_gt R.ltL, R.g_fresh⟩
  · rw [upd_ne ha] at e
    exact (R.push o).own a ob e

/-- a change of one owned object -/
theorem Rel.change {h h' : Heap} {a : Addr} {o mo : MO} (R : Rel g L m σ h) (ha : σ a = some o) (hs : Heap.SameBut a h h') (ho : HoldsO h' a mo) : Rel g L m (upd σ a mo) h' := by
  obtain ⟨⟨mc, F, k⟩, own⟩ := R
  have hx := own a o ha
  refine ⟨⟨mc, ⟨F.ns.sameBut hs (Ne.symm hx.2.1), fun b ob e => (hs.2 b (fun q => ?_)).trans (F.keep b ob e), F.low⟩, k⟩, fun b ob e => ?_⟩
  · rw [q, hx.2.2] at e; cases e
  · by_cases hb : b = a
    · subst hb
      rw [upd_same] at e; cases e
      exact ⟨ho, hx.2⟩
    · rw [upd_ne hb] at e
      exact ⟨(own b ob e).1.at fun _ x => (hs.2 b hb).trans x, (own b ob e).2⟩

theorem Rel.store {h h' : Heap} {x : Str} {cv : Value} {mc : Str → Option Value} (R : Rel g L m σ h) (F : Fm g L h mc) (k : ∀ x v, m.lookup x = some v → ∃ cv, mc x = some cv ∧ er cv = v)
    (hn : h'.Ns L (fun y => if y = x then some cv else mc y)) (hs : Heap.SameBut L h h') : Rel g L ((x, er cv) :: m) σ h' := by
  refine ⟨⟨_, F.set hn hs, fun y v e => ?_⟩, fun a o e => ⟨(R.own a o e).1.at fun _ q => (hs.2 a (R.own a o e).2.1).trans q, (R.own a o e).2⟩⟩
  rw [List.lookup_cons] at e
  by_cases hy : y = x
  · subst hy; simp at e; exact ⟨cv, by simp, e⟩
  · have : (y == x) = false := by simpa using hy
    rw [this] at e
    obtain ⟨c, h1, h2⟩ := k y v e
    exact ⟨c, by simp [hy, h1], h2⟩

end

/-- an environment of one of the program's plain functions -/
structure EnvOk (env : Env) (L : Addr) : Prop where
  kind : env.scope.kind = .function
  loc : env.locals = L
  glob : env.globals = mainGlobals
  bui : env.builtins = builtinsNs
  frame : env.frame = some L

section
variable {C : Cx} {A : Around} {g : Heap} {L : Addr} {E : Value → Shared → Prop} {m : LM} {σ : ST} {env : Env}

theorem W_storeName {x : Str} {v : Value} {Q : Unit → LM → ST → Prop} (O : EnvOk env L) (h : Q () ((x, er v) :: m) σ) (hl : env.kindOf x = some .local) :
    W C A g L E m σ (storeName env x v) Q := fun hh tk R => by
  obtain ⟨mc, F, k⟩ := R.fr
  refine wpAny_storeName_local hl (m := mc) (by rw [O.loc]; exact F.ns) (fun h' hn hs => ?_) (by rw [O.kind]; rfl)
  rw [O.loc] at hn hs
  exact ⟨h', tk + 1, _, σ, rfl, R.store F k hn hs, h⟩

theorem WE_Name {x : Str} {pos : Pos} {v : V} {Q : V → LM → ST → Prop} (O : EnvOk env L) (hv : m.lookup x = some v) (h : Q v m σ)
    (hl : env.kindOf x = some .local) (hd : (x == ("__debug__" : Str)) = false) : WE C A g L E m σ (eval (.Name x pos) env) Q := fun hh tk R => by
  obtain ⟨mc, F, k⟩ := R.fr
  obtain ⟨cv, h1, h2⟩ := k x v hv
  exact wpAny_Name (wpAny_loadName_local O.kind hl (m := mc) (by rw [O.loc]; exact F.ns) h1 ⟨hh, tk, m, σ, rfl, R, by show Q (er cv) m σ; rw [h2]; exact h⟩) hd

theorem WE_int {i : Int} {k : Nat} {pos : Pos} {Q : V → LM → ST → Prop} (h : Q (.int i) m σ) : WE C A g L E m σ (eval (.Constant (.int i) k pos) env) Q :=
  fun hh tk R => wpAny_Constant_int ⟨hh, tk + 1, m, σ, rfl, R, h⟩
theorem WE_bool {b : Bool} {k : Nat} {pos : Pos} {Q : V → LM → ST → Prop} (h : Q (.bool b) m σ) : WE C A g L E m σ (eval (.Constant (.bool b) k pos) env) Q :=
  fun hh tk R => wpAny_Constant_bool ⟨hh, tk, m, σ, rfl, R, h⟩
theorem WE_none {k : Nat} {pos : Pos} {Q : V → LM → ST → Prop} (h : Q .none m σ) : WE C A g L E m σ (eval (.Constant .none k pos) env) Q :=
  fun hh tk R => wpAny_Constant_none ⟨hh, tk, m, σ, rfl, R, h⟩

end

/-! ## Base2 -/

abbrev LI (ns : List Int) : MO := .list (ns.map V.int)

section
variable {C : Cx} {A : Around} {g : Heap} {L : Addr} {E : Value → Shared → Prop} {m : LM} {σ : ST} {env : Env} {α β : Type}

/-! arithmetic -/
def arithOk : Operator → Int → Int → Prop
  | .Add, _, _ => True
  | .Sub, _, _ => True
  | .Mult, x, y => x.natAbs < 2 ^ 64 ∨ y.natAbs < 2 ^ 64
  | .FloorDiv, x, y => y ≠ 0 ∧ y.natAbs < 2 ^ 64
  | .Mod, _, y => y ≠ 0
  | .LShift, x, y => 0 ≤ y ∧ y ≤ 1000000 ∧ x.natAbs < 2 ^ 64
  | .RShift, _, y => 0 ≤ y
  | .BitAnd, _, _ => True
  | .BitOr, _, _ => True
  | .Pow, x, y => 0 ≤ y ∧ y ≤ 1000000 ∧ x.natAbs < 2 ^ 64
  | _, _, _ => False
def arithVal : Operator → Int → Int → Int
  | .Add, x, y => x + y
  | .Sub, x, y => x - y
  | .Mult, x, y => x * y
  | .FloorDiv, x, y => x.fdiv y
  | .Mod, x, y => x.fmod y
  | .LShift, x, y => x * 2 ^ y.toNat
  | .RShift, x, y => x.fdiv (2 ^ y.toNat)
  | .BitAnd, x, y => Builtin.bitAnd x y
  | .BitOr, x, y => Builtin.bitOr x y
  | .Pow, x, y => x ^ y.toNat
  | _, _, _ => 0

theorem noPy {x y : Int} (h : y.natAbs < 2 ^ 64) : Builtin.divisionGoesByPylong x y = false := by
  refine PyProof.noPylong_of_log2 ?_
  by_cases h0 : y.natAbs = 0
  · rw [h0]; decide +kernel
  · have h30 : y.natAbs.log2 < 64 := (Nat.log2_lt h0).mpr h
    omega
theorem mulOk {x y : Int} (h : x.natAbs < 2 ^ 64 ∨ y.natAbs < 2 ^ 64) : IntMulOk x y :=
  h.elim (fun h => .of_left (intBits_le h)) fun h => .of_right (intBits_le h)

theorem W_arith {op : Operator} {x y : Int} {t u : Tok} {Q : V → LM → ST → Prop} (ok : arithOk op x y) (h : Q (.int (arithVal op x y)) m σ) :
    W C A g L E m σ (binaryOp op (.int x t) (.int y u)) (fun v => Q (er v)) := fun hh tk R => by
  have fin : ∀ z t' tk', arithVal op x y = z → Post C g L (fun v => Q (er v)) (.int z t') (shared C hh tk') := fun z t' tk' e => ⟨hh, tk', m, σ, rfl, R, by show Q (.int z) m σ; rw [← e]; exact h⟩
  cases op <;> first | exact ok.elim | skip
  · exact add_int (fin _ _ _ rfl)
  · exact sub_int (fin _ _ _ rfl)
  · exact mul_int (fin _ _ _ rfl) (mulOk ok)
  · exact mod_int ok (fin _ _ _ rfl)
  · exact pow_int_small ok.1 ok.2.1 ok.2.2 (fin _ _ _ rfl)
  · exact lshift_int_small ok.1 ok.2.1 ok.2.2 (fin _ _ _ rfl)
  · exact rshift_int ok (fin _ _ _ rfl)
  · exact or_int (fin _ _ _ rfl)
  · exact and_int (fin _ _ _ rfl)
  · exact floordiv_int ok.1 (fin _ _ _ rfl) (Or.inl (noPy ok.2))

def inpOk : Operator → Bool
  | .Add => true
  | .Sub => true
  | .Mod => true
  | .RShift => true
  | .BitOr => true
  | _ => false
theorem W_inplace {op : Operator} {x y : Int} {t u : Tok} {Q : V → LM → ST → Prop} (hi : inpOk op = true) (ok : arithOk op x y) (h : Q (.int (arithVal op x y)) m σ) :
    W C A g L E m σ (inplaceOp op (.int x t) (.int y u)) (fun v => Q (er v)) := fun hh tk R => by
  have fin : ∀ z t' tk', arithVal op x y = z → Post C g L (fun v => Q (er v)) (.int z t') (shared C hh tk') := fun z t' tk' e => ⟨hh, tk', m, σ, rfl, R, by show Q (.int z) m σ; rw [← e]; exact h⟩
  cases op <;> first | cases hi; done | skip
  · exact iadd_int (fin _ _ _ rfl)
  · exact isub_int (fin _ _ _ rfl)
  · exact imod_int ok (fin _ _ _ rfl)
  · exact irshift_int ok (fin _ _ _ rfl)
  · exact ior_int (fin _ _ _ rfl)

theorem W_BinOp {l r : Expr} {op : Operator} {pos : Pos} {Q : V → LM → ST → Prop}
    (h : W C A g L E m σ (eval l env) (fun a m₁ σ₁ => W C A g L E m₁ σ₁ (eval r env) (fun b m₂ σ₂ => W C A g L E m₂ σ₂ (binaryOp op a b) (fun v => Q (er v))))) :
    WE C A g L E m σ (eval (.BinOp l op r pos) env) Q := fun hh tk R =>
  wpAny_BinOp (go (h hh tk R) (fun a h' tk' m' σ' R' q => by exact lift1 q R') fun _ _ x => x)

/-- two ints and an operator -/
theorem WE_arith {l r : Expr} {op : Operator} {pos : Pos} {Q : V → LM → ST → Prop}
    (h : WE C A g L E m σ (eval l env) (fun a m₁ σ₁ => WE C A g L E m₁ σ₁ (eval r env) (fun b m₂ σ₂ => ∃ x y, a = .int x ∧ b = .int y ∧ arithOk op x y ∧ Q (.int (arithVal op x y)) m₂ σ₂))) :
    WE C A g L E m σ (eval (.BinOp l op r pos) env) Q :=
  W_BinOp (W_mono h fun a m₁ σ₁ h₁ => W_mono h₁ fun b m₂ σ₂ ⟨x, y, ea, eb, ok, q⟩ => by
    obtain ⟨t, rfl⟩ := er_int ea
    obtain ⟨u, rfl⟩ := er_int eb
    exact W_arith ok q)

/-! comparisons -/
def cmpVal : CmpOp → Int → Int → Bool
  | .Eq, x, y => x == y
  | .NotEq, x, y => x != y
  | .Lt, x, y => decide (x < y)
  | .LtE, x, y => decide (x ≤ y)
  | .Gt, x, y => decide (y < x)
  | .GtE, x, y => decide (y ≤ x)
  | _, _, _ => false
def cmpOk : CmpOp → Bool
  | .Eq => true
  | .NotEq => true
  | .Lt => true
  | .LtE => true
  | .Gt => true
  | .GtE => true
  | _ => false
theorem W_cmpInt {op : CmpOp} {x y : Int} {t u : Tok} {Q : Value → LM → ST → Prop} (ok : cmpOk op = true) (h : Q (.bool (cmpVal op x y)) m σ) :
    W C A g L E m σ (compareOp op (.int x t) (.int y u)) Q := fun hh tk R => by
  have fin : ∀ z, cmpVal op x y = z → Post C g L Q (.bool z) (shared C hh tk) := fun z e => ⟨hh, tk, m, σ, rfl, R, by rw [← e]; exact h⟩
  cases op <;> first | cases ok; done | skip
  · exact eq_int (fin _ rfl)
  · exact ne_int (fin _ rfl)
  · exact lt_int (fin _ rfl)
  · exact le_int (fin _ rfl)
  · exact gt_int (fin _ rfl)
  · exact ge_int (fin _ rfl)
theorem W_eqBool {x y : Bool} {Q : Value → LM → ST → Prop} (h : Q (.bool (x == y)) m σ) : W C A g L E m σ (compareOp .Eq (.bool x) (.bool y)) Q :=
  fun hh tk R => eq_bool ⟨hh, tk, m, σ, rfl, R, h⟩
theorem W_neBool {x y : Bool} {Q : Value → LM → ST → Prop} (h : Q (.bool (x != y)) m σ) : W C A g L E m σ (compareOp .NotEq (.bool x) (.bool y)) Q :=
  fun hh tk R => ne_bool ⟨hh, tk, m, σ, rfl, R, h⟩

def V.isNone : V → Bool
  | .none => true
  | _ => false
theorem W_isNone {v : Value} {Q : Value → LM → ST → Prop} (h : Q (.bool (er v).isNone) m σ) : W C A g L E m σ (compareOp .Is v .none) Q :=
  fun hh tk R => is_none ⟨hh, tk, m, σ, rfl, R, by
    have : (v == Value.none) = (er v).isNone := by cases v <;> rfl
    rw [this]; exact h⟩

theorem W_Compare1 {l r : Expr} {op : CmpOp} {pos : Pos} {Q : Value → LM → ST → Prop}
    (h : W C A g L E m σ (eval l env) (fun a m₁ σ₁ => W C A g L E m₁ σ₁ (eval r env) (fun b m₂ σ₂ => W C A g L E m₂ σ₂ (compareOp op a b) Q)))
    (hm : behindInMarks op r = false) :
    W C A g L E m σ (eval (.Compare l [op] [r] pos) env) Q := fun hh tk R =>
  wpAny_Compare1 (go (h hh tk R) (fun a h' tk' m' σ' R' q => by exact lift1 q R') fun _ _ x => x) hm
theorem W_isTrue_Compare1 {l r : Expr} {op : CmpOp} {pos : Pos} {whole : Sem Value} {Q : Bool → LM → ST → Prop}
    (h : W C A g L E m σ (eval l env) (fun a m₁ σ₁ => W C A g L E m₁ σ₁ (eval r env) (fun b m₂ σ₂ => W C A g L E m₂ σ₂ (compareOp op a b) (fun c m₃ σ₃ => W C A g L E m₃ σ₃ (truthy c) Q))))
    (hm : behindInMarks op r = false) :
    W C A g L E m σ (isTrue (.Compare l [op] [r] pos) env whole) Q := fun hh tk R =>
  wpAny_isTrue_Compare1 (go (h hh tk R) (fun a h' tk' m' σ' R' q => by
    exact go (q _ _ R') (fun b h2 tk2 m2 σ2 R2 q2 => by exact lift1 q2 R2) fun _ _ x => x) fun _ _ x => x) hm
theorem W_truthy_bool {b : Bool} {Q : Bool → LM → ST → Prop} (h : Q b m σ) : W C A g L E m σ (truthy (.bool b)) Q :=
  fun hh tk R => wpAny_truthy_bool ⟨hh, tk, m, σ, rfl, R, h⟩

/-- what two values compared give: ints, bools -/
inductive CmpIs : CmpOp → V → V → Bool → Prop
  | int {op : CmpOp} {x y : Int} (ok : cmpOk op = true) : CmpIs op (.int x) (.int y) (cmpVal op x y)
  | eqB {x y : Bool} : CmpIs .Eq (.bool x) (.bool y) (x == y)
  | neB {x y : Bool} : CmpIs .NotEq (.bool x) (.bool y) (x != y)
  | isN {v : V} : CmpIs .Is v .none v.isNone
theorem W_cmpIs {op : CmpOp} {a b : Value} {va vb : V} {z : Bool} {Q : Value → LM → ST → Prop} (ea : er a = va) (eb : er b = vb) (c : CmpIs op va vb z) (h : Q (.bool z) m σ) :
    W C A g L E m σ (compareOp op a b) Q := by
  cases c with
  | int ok => obtain ⟨t, rfl⟩ := er_int ea; obtain ⟨u, rfl⟩ := er_int eb; exact W_cmpInt ok h
  | eqB => rw [er_bool ea, er_bool eb]; exact W_eqBool h
  | neB => rw [er_bool ea, er_bool eb]; exact W_neBool h
  | isN => rw [er_none eb]; exact W_isNone (by rw [ea]; exact h)

theorem WE_cmp {l r : Expr} {op : CmpOp} {pos : Pos} {Q : V → LM → ST → Prop}
    (h : WE C A g L E m σ (eval l env) (fun a m₁ σ₁ => WE C A g L E m₁ σ₁ (eval r env) (fun b m₂ σ₂ => ∃ z, CmpIs op a b z ∧ Q (.bool z) m₂ σ₂)))
    (hm : behindInMarks op r = false) :
    WE C A g L E m σ (eval (.Compare l [op] [r] pos) env) Q :=
  W_Compare1 (W_mono h fun a m₁ σ₁ h₁ => W_mono h₁ fun b m₂ σ₂ ⟨z, c, q⟩ => W_cmpIs rfl rfl c q) hm

/-- tests -/
def WT (C : Cx) (A : Around) (g : Heap) (L : Addr) (E : Value → Shared → Prop) (m : LM) (σ : ST) (e : Expr) (env : Env) (Q : Bool → LM → ST → Prop) : Prop :=
  W C A g L E m σ (isTrue e env (eval e env)) Q

theorem WT_cmp {l r : Expr} {op : CmpOp} {pos : Pos} {Q : Bool → LM → ST → Prop}
    (h : WE C A g L E m σ (eval l env) (fun a m₁ σ₁ => WE C A g L E m₁ σ₁ (eval r env) (fun b m₂ σ₂ => ∃ z, CmpIs op a b z ∧ Q z m₂ σ₂)))
    (hm : behindInMarks op r = false) :
    WT C A g L E m σ (.Compare l [op] [r] pos) env Q :=
  W_isTrue_Compare1 (W_mono h fun a m₁ σ₁ h₁ => W_mono h₁ fun b m₂ σ₂ ⟨z, c, q⟩ => W_cmpIs rfl rfl c (W_truthy_bool q)) hm
theorem WT_not {x : Expr} {pos : Pos} {Q : Bool → LM → ST → Prop} (h : WT C A g L E m σ x env (fun b m₁ σ₁ => Q (!b) m₁ σ₁)) : WT C A g L E m σ (.UnaryOp .Not x pos) env Q :=
  fun hh tk R => wpAny_isTrue_Not (h hh tk R)
theorem WT_value {e : Expr} {Q : Bool → LM → ST → Prop} (h : WE C A g L E m σ (eval e env) (fun v m₁ σ₁ => ∃ b, v = .bool b ∧ Q b m₁ σ₁))
    (he : ∀ whole, isTrue e env whole = (do let v ← whole; standAt e.pos; holding [v] (truthy v))) : WT C A g L E m σ e env Q := fun hh tk R =>
  wpAny_isTrue_value (go (h hh tk R) (fun v h' tk' m' σ' R' ⟨b, q1, q2⟩ => by rw [er_bool q1]; exact W_truthy_bool q2 _ _ R') fun _ _ x => x) (he _)
theorem WT_and2 {x y : Expr} {pos : Pos} {Q : Bool → LM → ST → Prop}
    (h : WT C A g L E m σ x env (fun b m₁ σ₁ => if b then WT C A g L E m₁ σ₁ y env Q else Q false m₁ σ₁)) : WT C A g L E m σ (.BoolOp .And [x, y] pos) env Q := fun hh tk R => by
  refine wpAny_isTrue_BoolOp (wpAny_allTrue_And_cons (go (h hh tk R) (fun b h' tk' m' σ' R' q => ?_) fun _ _ x => x))
  cases b with
  | false => exact ⟨h', tk', m', σ', rfl, R', q⟩
  | true =>
    refine wpAny_allTrue_And_cons (wpAny_mono (q h' tk' R') (fun b s₂ p => ?_) fun _ _ x => x)
    cases b with
    | false => exact p
    | true => exact wpAny_allTrue_And_nil p
theorem WT_or2 {x y : Expr} {pos : Pos} {Q : Bool → LM → ST → Prop}
    (h : WT C A g L E m σ x env (fun b m₁ σ₁ => if b then Q true m₁ σ₁ else WT C A g L E m₁ σ₁ y env Q)) : WT C A g L E m σ (.BoolOp .Or [x, y] pos) env Q := fun hh tk R => by
  refine wpAny_isTrue_BoolOp (wpAny_allTrue_Or_cons (go (h hh tk R) (fun b h' tk' m' σ' R' q => ?_) fun _ _ x => x))
  cases b with
  | true => exact ⟨h', tk', m', σ', rfl, R', q⟩
  | false =>
    refine wpAny_allTrue_Or_cons (wpAny_mono (q h' tk' R') (fun b s₂ p => ?_) fun _ _ x => x)
    cases b with
    | true => exact p
    | false => exact wpAny_allTrue_Or_nil p

theorem WE_and2 {x y : Expr} {pos : Pos} {Q : V → LM → ST → Prop}
    (h : WE C A g L E m σ (eval x env) (fun v m₁ σ₁ => ∃ b, v = .bool b ∧ if b then WE C A g L E m₁ σ₁ (eval y env) Q else Q (.bool false) m₁ σ₁)) : WE C A g L E m σ (eval (.BoolOp .And [x, y] pos) env) Q := fun hh tk R => by
  refine wpAny_And2 (go (h hh tk R) (fun v h' tk' m' σ' R' ⟨b, q1, q2⟩ => ?_) fun _ _ x => x)
  rw [er_bool q1]
  refine wpAny_truthy_bool ?_
  cases b with
  | false => exact ⟨h', tk', m', σ', rfl, R', q2⟩
  | true => exact q2 _ _ R'

theorem WE_IfExp {test body orelse : Expr} {pos : Pos} {Q : V → LM → ST → Prop}
    (h : WT C A g L E m σ test env (fun b m₁ σ₁ => if b then WE C A g L E m₁ σ₁ (eval body env) Q else WE C A g L E m₁ σ₁ (eval orelse env) Q)) :
    WE C A g L E m σ (eval (.IfExp test body orelse pos) env) Q := fun hh tk R => by
  refine wpAny_IfExp (go (h hh tk R) (fun b h' tk' m' σ' R' q => ?_) fun _ _ x => x)
  cases b <;> exact q _ _ R'

theorem WE_not {x : Expr} {pos : Pos} {Q : V → LM → ST → Prop} (h : WE C A g L E m σ (eval x env) (fun v m₁ σ₁ => ∃ b, v = .bool b ∧ Q (.bool (!b)) m₁ σ₁)) :
    WE C A g L E m σ (eval (.UnaryOp .Not x pos) env) Q := fun hh tk R => by
  refine wpAny_UnaryOp (go (h hh tk R) (fun v h' tk' m' σ' R' ⟨b, q1, q2⟩ => ?_) fun _ _ x => x)
  rw [er_bool q1]
  exact not_value (wpAny_truthy_bool ⟨h', tk', m', σ', rfl, R', q2⟩)
theorem WE_neg {x : Expr} {pos : Pos} {Q : V → LM → ST → Prop} (h : WE C A g L E m σ (eval x env) (fun v m₁ σ₁ => ∃ b, v = .int b ∧ Q (.int (-b)) m₁ σ₁)) :
    WE C A g L E m σ (eval (.UnaryOp .USub x pos) env) Q := fun hh tk R => by
  refine wpAny_UnaryOp (go (h hh tk R) (fun v h' tk' m' σ' R' ⟨b, q1, q2⟩ => ?_) fun _ _ x => x)
  obtain ⟨t, rfl⟩ := er_int q1
  exact neg_int ⟨h', _, m', σ', rfl, R', q2⟩

/-! items -/
theorem WE_sub {value slice : Expr} {pos : Pos} {Q : V → LM → ST → Prop}
    (h : W C A g L E m σ (eval value env) (fun o m₁ σ₁ => W C A g L E m₁ σ₁ (eval slice env) (fun i m₂ σ₂ => W C A g L E m₂ σ₂ (subscriptTail value slice o i) (fun v => Q (er v))))) :
    WE C A g L E m σ (eval (.Subscript value slice pos) env) Q := fun hh tk R =>
  Subscript_ (go (h hh tk R) (fun a h' tk' m' σ' R' q => by exact lift1 q R') fun _ _ x => x)

/-- what an item of an object is -/
inductive ItemIs (σ : ST) : V → V → V → Prop
  | list {l : Addr} {k : Int} {vs : List V} {x : V} (hl : σ l = some (.list vs)) (h0 : 0 ≤ k) (hk : k < 2 ^ 63) (hx : vs[k.toNat]? = some x) : ItemIs σ (.ref l) (.int k) x
  | last {l : Addr} {vs : List V} {x : V} (hl : σ l = some (.list vs)) (hz : vs.length ≤ 2 ^ 24) (hx : vs[vs.length - 1]? = some x) : ItemIs σ (.ref l) (.int (-1)) x
  | tup {t : Addr} {k : Int} {vs : List V} {x : V} (ht : σ t = some (.tup vs)) (h0 : 0 ≤ k) (hk : k < 2 ^ 63) (hx : vs[k.toNat]? = some x) : ItemIs σ (.ref t) (.int k) x

theorem W_item {value slice : Expr} {o i : Value} {x : V} {Q : V → LM → ST → Prop} (hi : ItemIs σ (er o) (er i) x) (h : Q x m σ)
    (hs : ∀ o i, subscripted slice false o i = operate [o, i] (getItem o i)) : W C A g L E m σ (subscriptTail value slice o i) (fun v => Q (er v)) := fun hh tk R => by
  generalize ho : er o = vo at hi
  generalize hj : er i = vi at hi
  cases hi with
  | list hl h0 hk hx =>
    cases er_ref ho
    obtain ⟨t, rfl⟩ := er_int hj
    obtain ⟨cvs, n, e, rfl⟩ := (R.own _ _ hl).1
    rw [List.getElem?_map] at hx
    cases hc : cvs.toList[(‹Int›).toNat]? with
    | none => rw [hc] at hx; cases hx
    | some cx =>
      rw [hc] at hx; cases hx
      have hL : (shared C hh tk).heap.IsList _ cvs := PySem.IsL.isList (n := n) e
      refine tail_any hL.typeIs slot_list_getitem.lookup (wpAny_getItem_list hL h0 hk (x := cx) (by rw [← Array.getElem?_toList]; exact hc) ?_) (hs _ _)
      exact ⟨hh, tk, m, σ, rfl, R, h⟩
  | last hl hz hx =>
    cases er_ref ho
    obtain ⟨t, rfl⟩ := er_int hj
    obtain ⟨cvs, n, e, rfl⟩ := (R.own _ _ hl).1
    rw [List.getElem?_map] at hx
    simp only [List.length_map, Array.length_toList] at hx hz
    cases hc : cvs.toList[cvs.size - 1]? with
    | none => rw [hc] at hx; cases hx
    | some cx =>
      rw [hc] at hx; cases hx
      have hL : (shared C hh tk).heap.IsList _ cvs := PySem.IsL.isList (n := n) e
      have hlt : cvs.size - 1 < cvs.size := by
        have := (List.getElem?_eq_some_iff.mp hc).1
        simpa using this
      refine tail_any hL.typeIs slot_list_getitem.lookup (wpAny_getItem_list_neg hL (by decide) (by omega) (by decide) (x := cx) ?_ ?_) (hs _ _)
      · rw [← Array.getElem?_toList]
        have : ((-1 : Int) + (cvs.size : Int)).toNat = cvs.size - 1 := by omega
        rw [this]; exact hc
      · exact ⟨hh, tk, m, σ, rfl, R, h⟩
  | tup hl h0 hk hx =>
    cases er_ref ho
    obtain ⟨t, rfl⟩ := er_int hj
    obtain ⟨cvs, n, e, rfl⟩ := (R.own _ _ hl).1
    rw [List.getElem?_map] at hx
    rename_i T k
    cases hc : cvs.toList[k.toNat]? with
    | none => rw [hc] at hx; cases hx
    | some cx =>
      rw [hc] at hx; cases hx
      have hL : IsTup (shared C hh tk).heap T cvs := ⟨_, e, rfl, n, rfl⟩
      have hlt : k.toNat < cvs.size := by
        have := (List.getElem?_eq_some_iff.mp hc).1
        simpa using this
      refine tail_any hL.typeIs slot_tuple_getitem.lookup (getItem_tuple hL (j := k.toNat) (by omega) hk ?_ (x := cx) (by rw [← Array.getElem?_toList]; exact hc) ?_) (hs _ _)
      · unfold seqIndex?
        have h1 : ¬ k < 0 := by omega
        simp only [h1, if_false]
        have h2 : (decide (0 ≤ k) && decide (k < (cvs.size : Int))) = true := by simp; omega
        simp [h0]; omega
      · exact ⟨hh, tk, m, σ, rfl, R, h⟩

theorem WE_item {value slice : Expr} {pos : Pos} {Q : V → LM → ST → Prop}
    (h : WE C A g L E m σ (eval value env) (fun o m₁ σ₁ => WE C A g L E m₁ σ₁ (eval slice env) (fun i m₂ σ₂ => ∃ x, ItemIs σ₂ o i x ∧ Q x m₂ σ₂)))
    (hs : ∀ o i, subscripted slice false o i = operate [o, i] (getItem o i)) :
    WE C A g L E m σ (eval (.Subscript value slice pos) env) Q :=
  WE_sub (W_mono h fun o m₁ σ₁ h₁ => W_mono h₁ fun i m₂ σ₂ ⟨x, hi, q⟩ => W_item hi q hs)

end

/-! ## Base3 -/

section
variable {C : Cx} {A : Around} {g : Heap} {L : Addr} {E : Value → Shared → Prop} {m : LM} {σ : ST} {env : Env} {α β : Type}

/-! displays -/
def WS (C : Cx) (A : Around) (g : Heap) (L : Addr) (E : Value → Shared → Prop) (m : LM) (σ : ST) (pos : Pos) (es : List Expr) (env : Env) (Q : List V → LM → ST → Prop) : Prop :=
  W C A g L E m σ (spliced (backTo pos (starEach es env))) (fun vs => Q (vs.map er))

theorem WS_nil {pos : Pos} {Q : List V → LM → ST → Prop} (h : Q [] m σ) : WS C A g L E m σ pos [] env Q := fun hh tk R =>
  wpAny_items_nil ⟨hh, tk, m, σ, rfl, R, h⟩
theorem WS_cons {pos : Pos} {e : Expr} {rest : List Expr} {Q : List V → LM → ST → Prop}
    (h : WE C A g L E m σ (eval e env) (fun v m₁ σ₁ => WS C A g L E m₁ σ₁ pos rest env (fun vs => Q (v :: vs))))
    (he : starEach (e :: rest) env = (false, eval e env) :: starEach rest env) : WS C A g L E m σ pos (e :: rest) env Q := fun hh tk R =>
  wpAny_items_cons (go (h hh tk R) (fun v h' tk' m' σ' R' q => by exact q _ _ R') fun _ _ x => x) he

theorem sz1000 {n : Nat} (h : n ≤ 1000) : n ≤ sizeLine := by unfold sizeLine; omega

theorem WE_Tuple {es : List Expr} {k : Nat} {pos : Pos} {Q : V → LM → ST → Prop}
    (h : WS C A g L E m σ pos es env (fun vs m₁ σ₁ => vs.length ≤ 1000 ∧ ∀ a, σ₁ a = none → Q (.ref a) m₁ (upd σ₁ a (.tup vs)))) :
    WE C A g L E m σ (eval (.Tuple es k pos) env) Q := fun hh tk R =>
  wpAny_Tuple (go (h hh tk R) (fun vs h' tk' m' σ' R' ⟨hz, q⟩ => by
    refine ⟨sz1000 (by simpa using hz), _, tk', m', _, rfl, R'.alloc (mo := .tup (vs.map er)) ⟨vs.toArray, 0, Heap.get?_push_size _ rfl, by simp⟩, q _ R'.size_fresh⟩) fun _ _ x => x)
theorem WE_List {es : List Expr} {pos : Pos} {Q : V → LM → ST → Prop}
    (h : WS C A g L E m σ pos es env (fun vs m₁ σ₁ => vs.length ≤ 1000 ∧ ∀ a, σ₁ a = none → Q (.ref a) m₁ (upd σ₁ a (.list vs)))) :
    WE C A g L E m σ (eval (.List es pos) env) Q := fun hh tk R =>
  wpAny_List (go (h hh tk R) (fun vs h' tk' m' σ' R' ⟨hz, q⟩ => by
    refine ⟨sz1000 (by simpa using hz), _, tk', m', _, rfl, R'.alloc (mo := .list (vs.map er)) ⟨vs.toArray, 0, Heap.get?_push_size _ rfl, by simp⟩, q _ R'.size_fresh⟩) fun _ _ x => x)

/-! the library's ledger over everything -/
def noHeap : Heap := ⟨#[], {}⟩
theorem noHeap_get (a : Addr) : noHeap.get? a = none := by simp [noHeap, Heap.get?]
def restOf (L : Addr) (h : Heap) : List (Addr × Obj) :=
  (List.range h.objs.size).filterMap fun a => if a = L then none else (h.get? a).map fun o => (a, o)
theorem mem_restOf {L : Addr} {h : Heap} {a : Addr} {o : Obj} : (a, o) ∈ restOf L h ↔ h.get? a = some o ∧ a ≠ L := by
  unfold restOf
  rw [List.mem_filterMap]
  constructor
  · rintro ⟨b, hb, e⟩
    by_cases hL : b = L
    · rw [if_pos hL] at e; cases e
    · rw [if_neg hL] at e
      cases hh : h.get? b with
      | none => rw [hh] at e; cases e
      | some ob => rw [hh] at e; cases e; exact ⟨hh, hL⟩
  · rintro ⟨e, hL⟩
    exact ⟨a, List.mem_range.mpr (Heap.lt_size e), by rw [if_neg hL, e]; rfl⟩
theorem news_restOf (L : Addr) (h : Heap) : News noHeap L h (restOf L h) := fun p hp => ⟨(mem_restOf.mp hp).1, (mem_restOf.mp hp).2, noHeap_get _⟩
theorem Fm.fr {h : Heap} {mc : Str → Option Value} (F : Fm g L h mc) : Fr noHeap L h mc := ⟨F.ns, (fun b o e => by rw [noHeap_get] at e; cases e), Nat.zero_le _⟩
theorem Rel.back {h h' : Heap} {news : List (Addr × Obj)} {mc : Str → Option Value} (R : Rel g L m σ h) (F' : Fr noHeap L h' mc) (N' : News noHeap L h' news) (hsub : ∀ p ∈ restOf L h, p ∈ news)
    (k : ∀ x v, m.lookup x = some v → ∃ cv, mc x = some cv ∧ er cv = v) : Rel g L m σ h' := by
  obtain ⟨mc₀, F, _⟩ := R.fr
  have up : ∀ a ob, a ≠ L → h.get? a = some ob → h'.get? a = some ob := fun a ob ha e => (N' (a, ob) (hsub _ (mem_restOf.mpr ⟨e, ha⟩))).1
  exact ⟨⟨mc, ⟨F'.ns, fun b o e => up b o (fun q => by rw [q, F.low] at e; cases e) (F.keep b o e), F.low⟩, k⟩,
    fun a o e => ⟨(R.own a o e).1.at fun ob hob => up a ob (R.own a o e).2.1 hob, (R.own a o e).2⟩⟩
theorem Rel.grow {h h' : Heap} (R : Rel g L m σ h) (hk : ∀ b o, h.get? b = some o → h'.get? b = some o) : Rel g L m σ h' :=
  ⟨let ⟨mc, F, k⟩ := R.fr; ⟨mc, ⟨F.ns.keeps hk, fun b o e => hk _ _ (F.keep b o e), F.low⟩, k⟩, fun a o e => ⟨(R.own a o e).1.at fun _ q => hk _ _ q, (R.own a o e).2⟩⟩
theorem Rel.alloc' {h : Heap} {h' : Heap} {a : Addr} {mo : MO} (R : Rel g L m σ h) (R' : Rel g L m σ h') (ha : a = h.objs.size) (ho : HoldsO h' a mo) : Rel g L m (upd σ a mo) h' := by
  subst ha
  refine ⟨R'.fr, fun b ob e => ?_⟩
  by_cases hb : b = h.objs.size
  · subst hb
    rw [upd_same] at e; cases e
    exact ⟨ho, Nat.ne_of_gt R.ltL, R.g_fresh⟩
  · rw [upd_ne hb] at e; exact R'.own b ob e

/-! list * int, list + list -/
theorem foldl_rep (items : Array Value) : ∀ (k : Nat) (acc : Array Value), (List.foldl (fun x1 x2 => x1 ++ x2) acc (List.replicate k items)).toList = acc.toList ++ (List.replicate k items.toList).flatten
  | 0, acc => by simp
  | k + 1, acc => by rw [List.replicate_succ, List.foldl_cons, foldl_rep items k, List.replicate_succ, List.flatten_cons, Array.toList_append, List.append_assoc]
theorem flat_one {α : Type} (x : α) : ∀ k : Nat, (List.replicate k [x]).flatten = List.replicate k x
  | 0 => rfl
  | k + 1 => by rw [List.replicate_succ, List.flatten_cons, flat_one x k]; rfl

theorem WE_mulList {l r : Expr} {pos : Pos} {Q : V → LM → ST → Prop}
    (h : WE C A g L E m σ (eval l env) (fun a m₁ σ₁ => WE C A g L E m₁ σ₁ (eval r env) (fun b m₂ σ₂ => ∃ t x k, a = .ref t ∧ b = .int k ∧ σ₂ t = some (.list [x]) ∧ 0 ≤ k ∧ k ≤ 1000 ∧
      ∀ n, σ₂ n = none → Q (.ref n) m₂ (upd σ₂ n (.list (List.replicate k.toNat x)))))) :
    WE C A g L E m σ (eval (.BinOp l .Mult r pos) env) Q :=
  W_BinOp (W_mono h fun a m₁ σ₁ h₁ => W_mono h₁ fun b m₂ σ₂ ⟨t, x, k, ea, eb, hl, h0, hk, q⟩ => fun hh tk R => by
    obtain ⟨u, rfl⟩ := er_int eb
    cases er_ref ea
    obtain ⟨cvs, n, e, hx⟩ := (R.own _ _ hl).1
    obtain ⟨mc, F, k'⟩ := R.fr
    have hlen : cvs.size = 1 := by
      have := congrArg List.length hx
      simpa using this
    have hne : cvs.isEmpty = false := by
      rw [Array.isEmpty_eq_false_iff]
      intro h0; rw [h0] at hlen; simp at hlen
    refine mul_list F.fr (news_restOf L hh) e (by omega) (by omega) (by rw [hlen]; omega) fun h' F' N' => ?_
    have hob := (N' _ (.head _)).1
    rw [hne] at hob
    have R' : Rel g L m₂ σ₂ h' := R.back F' N' (fun p hp => .tail _ hp) k'
    refine ⟨h', tk, m₂, _, rfl, R.alloc' R' rfl (mo := .list (List.replicate k.toNat x)) ⟨_, 0, hob, ?_⟩, q _ R.size_fresh⟩
    rw [if_neg Bool.false_ne_true, foldl_rep]
    obtain ⟨v, hv⟩ : ∃ v, cvs.toList = [v] := by
      cases hc : cvs.toList with
      | nil => rw [hc] at hx; cases hx
      | cons v r => rw [hc] at hx; cases r with
        | nil => exact ⟨v, rfl⟩
        | cons _ _ => cases hx
    rw [hv] at hx ⊢
    cases hx
    simp)

theorem WE_addList {l r : Expr} {pos : Pos} {Q : V → LM → ST → Prop}
    (h : WE C A g L E m σ (eval l env) (fun a m₁ σ₁ => WE C A g L E m₁ σ₁ (eval r env) (fun b m₂ σ₂ => ∃ t u xs ys, a = .ref t ∧ b = .ref u ∧ σ₂ t = some (.list xs) ∧ σ₂ u = some (.list ys) ∧ xs.length + ys.length ≤ 1000 ∧
      ∀ n, σ₂ n = none → Q (.ref n) m₂ (upd σ₂ n (.list (xs ++ ys)))))) :
    WE C A g L E m σ (eval (.BinOp l .Add r pos) env) Q :=
  W_BinOp (W_mono h fun a m₁ σ₁ h₁ => W_mono h₁ fun b m₂ σ₂ ⟨t, u, xs, ys, ea, eb, hl, hr, hz, q⟩ => fun hh tk R => by
    cases er_ref ea
    cases er_ref eb
    obtain ⟨cvs, n, e, hx⟩ := (R.own _ _ hl).1
    obtain ⟨cvs2, n2, e2, hx2⟩ := (R.own _ _ hr).1
    have h1 : cvs.size = xs.length := by rw [← hx]; simp
    have h2 : cvs2.size = ys.length := by rw [← hx2]; simp
    refine PySem.P.add_list (n := n) (n2 := n2) e e2 ⟨_, tk, m₂, _, rfl, R.alloc (mo := .list (xs ++ ys)) ⟨cvs ++ cvs2, 0, Heap.get?_push_size _ rfl, ?_⟩, q _ R.size_fresh⟩ (sz1000 (by omega))
    rw [Array.toList_append, List.map_append, hx, hx2])

/-! cuts -/
def partV : Option V → Option (Option Int)
  | none => some none
  | some (.int i) => some (some i)
  | some _ => none
def WP (C : Cx) (A : Around) (g : Heap) (L : Addr) (E : Value → Shared → Prop) (m : LM) (σ : ST) (e : Option Expr) (env : Env) (Q : Option Int → LM → ST → Prop) : Prop :=
  W C A g L E m σ (evalPart e env) (fun v m' σ' => ∃ i, IsPart v i ∧ Q i m' σ')
theorem WP_none {Q : Option Int → LM → ST → Prop} (h : Q none m σ) : WP C A g L E m σ none env Q := fun hh tk R => by
  rw [evalPart_none]; exact wpAny_pure ⟨hh, tk, m, σ, rfl, R, none, .none, h⟩
theorem WP_some {e : Expr} {Q : Option Int → LM → ST → Prop} (h : WE C A g L E m σ (eval e env) (fun v m₁ σ₁ => ∃ i, v = .int i ∧ Q (some i) m₁ σ₁))
    (he : evalPart (some e) env = eval e env) : WP C A g L E m σ (some e) env Q := fun hh tk R => by
  rw [he]
  exact wpAny_mono (h hh tk R) (fun v s₁ p => p.mono fun v m' σ' ⟨i, e, q⟩ => by obtain ⟨t, rfl⟩ := er_int e; exact ⟨some i, .int i t, q⟩) fun _ _ x => x

/-- the cuts that the program makes -/
inductive CutIs : Option Int → Option Int → List V → List V → Prop
  | all {vs : List V} : CutIs none none vs vs
  | upto {vs : List V} {k : Int} (h0 : 0 ≤ k) (hk : k ≤ vs.length) : CutIs none (some k) vs (vs.take k.toNat)
  | run {vs : List V} {a b : Int} (h0 : 0 ≤ a) (hab : a ≤ b) (hb : b ≤ vs.length) : CutIs (some a) (some b) vs ((vs.drop a.toNat).take (b.toNat - a.toNat))
theorem CutIs.pick {lo hi : Option Int} {vs ws : List V} {items : Array Value} (c : CutIs lo hi vs ws) (e : items.toList.map er = vs) : (slicePick items lo hi none).toList.map er = ws := by
  have hz : items.size = vs.length := by rw [← e]; simp
  cases c with
  | all => rw [slicePick_all]; exact e
  | upto h0 hk =>
    rename_i k
    obtain ⟨j, rfl⟩ := Int.eq_ofNat_of_zero_le h0
    rw [slicePick_upto items j (by omega)]
    simp [← e]
  | run h0 hab hb =>
    rename_i a b
    obtain ⟨i, rfl⟩ := Int.eq_ofNat_of_zero_le h0
    obtain ⟨j, rfl⟩ := Int.eq_ofNat_of_zero_le (Int.le_trans h0 hab)
    rw [slicePick_run items i j (by omega) (by omega)]
    simp [← e]

theorem WE_cut {value : Expr} {lower upper : Option Expr} {p pos : Pos} {Q : V → LM → ST → Prop}
    (h : WE C A g L E m σ (eval value env) (fun o m₁ σ₁ => WP C A g L E m₁ σ₁ lower env (fun lo m₂ σ₂ => WP C A g L E m₂ σ₂ upper env (fun hi m₃ σ₃ =>
      ∃ l vs ws, o = .ref l ∧ σ₃ l = some (.list vs) ∧ vs.length ≤ 1000 ∧ CutIs lo hi vs ws ∧ ∀ n, σ₃ n = none → Q (.ref n) m₃ (upd σ₃ n (.list ws))))))
    (ht : ∀ o r, letTemporaryGo value o r = pure ()) :
    WE C A g L E m σ (eval (.Subscript value (.Slice lower upper none p) pos) env) Q := fun hh tk R => by
  refine wpAny_Subscript_list_slice (go (h hh tk R) (fun o h₁ tk₁ m₁ σ₁ R₁ q₁ => ?_) fun _ _ x => x) ht
  refine go (q₁ _ _ R₁) (fun vl h₂ tk₂ m₂ σ₂ R₂ ⟨lo, pl, q₂⟩ => ?_) fun _ _ x => x
  refine go (q₂ _ _ R₂) (fun vu h₃ tk₃ m₃ σ₃ R₃ ⟨hi, pu, q₃⟩ => ?_) fun _ _ x => x
  obtain ⟨l, vs, ws, ho, hl, hz, c, q⟩ := q₃
  cases er_ref ho
  obtain ⟨cvs, n, e, hx⟩ := (R₃.own _ _ hl).1
  have hsz : cvs.size = vs.length := by rw [← hx]; simp
  refine ⟨l, cvs, lo, hi, rfl, PySem.IsL.isList (n := n) e, sz1000 (by omega), pl, pu, ?_⟩
  have R₄ := (R₃.push { cls := .type "slice", data := .fields #[vl, vu, .none] })
  have hsize : (h₃.push ({ cls := .type "slice", data := .fields #[vl, vu, .none] } : Obj)).objs.size = h₃.objs.size + 1 := Heap.size_push ..
  have R₅ := R₄.alloc (o := { cls := .type "list", data := .seq (slicePick cvs lo hi none) }) (mo := .list ws) ⟨_, 0, Heap.get?_push_size _ rfl, c.pick hx⟩
  rw [hsize] at R₅
  exact ⟨_, tk₃, m₃, _, rfl, R₅, q _ (hsize ▸ R₄.size_fresh)⟩

/-! statements -/
/-- a run of statements -/
def X (C : Cx) (A : Around) (g : Heap) (L : Addr) (E : Value → Shared → Prop) (m : LM) (σ : ST) (ss : List Stmt) (env : Env) (Q : Flow → LM → ST → Prop) : Prop :=
  W C A g L E m σ (execs ss env) Q
/-- what stands behind a statement -/
def Then (C : Cx) (A : Around) (g : Heap) (L : Addr) (E : Value → Shared → Prop) (rest : List Stmt) (env : Env) (Q : Flow → LM → ST → Prop) : Flow → LM → ST → Prop
  | .next, m, σ => X C A g L E m σ rest env Q
  | f, m, σ => Q f m σ

theorem X_nil {Q : Flow → LM → ST → Prop} (h : Q .next m σ) : X C A g L E m σ [] env Q := fun hh tk R => wpAny_execs_nil ⟨hh, tk, m, σ, rfl, R, h⟩
theorem X_step {st : Stmt} {rest : List Stmt} {Q : Flow → LM → ST → Prop} (h : W C A g L E m σ (exec st env) (Then C A g L E rest env Q)) : X C A g L E m σ (st :: rest) env Q := fun hh tk R => by
  refine wpAny_execs_cons (go (h hh tk R) (fun f h' tk' m' σ' R' q => ?_) fun _ _ x => x)
  cases f with
  | next => exact q _ _ R'
  | brk => exact ⟨h', tk', m', σ', rfl, R', q⟩
  | cont => exact ⟨h', tk', m', σ', rfl, R', q⟩
  | ret v => exact ⟨h', tk', m', σ', rfl, R', q⟩

theorem X_Assign {x : Str} {p pos : Pos} {value : Expr} {rest : List Stmt} {Q : Flow → LM → ST → Prop} (O : EnvOk env L)
    (h : WE C A g L E m σ (eval value env) (fun v m₁ σ₁ => X C A g L E ((x, v) :: m₁) σ₁ rest env Q)) (hl : env.kindOf x = some .local)
    (hs : swapsWith value (some (.Name x p)) pos.line env = pure false) : X C A g L E m σ (.Assign [.Name x p] value pos :: rest) env Q :=
  X_step fun hh tk R => wpAny_Assign_Name (go (h hh tk R) (fun v h' tk' m' σ' R' q => by
    exact W_storeName (Q := fun _ => Then C A g L E rest env Q .next) O q hl h' tk' R') fun _ _ x => x) hs

theorem X_Aug {x : Str} {op : Operator} {p pos : Pos} {value : Expr} {rest : List Stmt} {a : Int} {Q : Flow → LM → ST → Prop} (O : EnvOk env L)
    (hv : m.lookup x = some (.int a)) (hi : inpOk op = true)
    (h : WE C A g L E m σ (eval value env) (fun v m₁ σ₁ => ∃ b, v = .int b ∧ arithOk op a b ∧ X C A g L E ((x, .int (arithVal op a b)) :: m₁) σ₁ rest env Q)) (hl : env.kindOf x = some .local) :
    X C A g L E m σ (.AugAssign (.Name x p) op value pos :: rest) env Q :=
  X_step fun hh tk R => by
    obtain ⟨mc, F, k⟩ := R.fr
    obtain ⟨cv, h1, h2⟩ := k x _ hv
    obtain ⟨t, rfl⟩ := er_int h2
    refine wpAny_AugAssign_Name (wpAny_loadName_local O.kind hl (m := mc) (by rw [O.loc]; exact F.ns) h1 ?_)
    refine go (h hh tk R) (fun v h' tk' m' σ' R' ⟨b, eb, ok, q⟩ => ?_) fun _ _ x => x
    obtain ⟨u, rfl⟩ := er_int eb
    refine go (W_inplace (C := C) (A := A) (E := E) (Q := fun v m₂ σ₂ => v = .int (arithVal op a b) ∧ m₂ = m' ∧ σ₂ = σ') hi ok ⟨rfl, rfl, rfl⟩ h' tk' R') (fun r h₂ tk₂ m₂ σ₂ R₂ ⟨er', em, es⟩ => ?_) fun _ _ x => x
    subst em es
    exact W_storeName (Q := fun _ => Then C A g L E rest env Q .next) O (by rw [er']; exact q) hl _ _ R₂

theorem X_If {test : Expr} {body orelse : List Stmt} {pos : Pos} {rest : List Stmt} {Q : Flow → LM → ST → Prop}
    (h : WT C A g L E m σ test env (fun b m₁ σ₁ => if b then X C A g L E m₁ σ₁ body env (Then C A g L E rest env Q) else X C A g L E m₁ σ₁ orelse env (Then C A g L E rest env Q))) :
    X C A g L E m σ (.If test body orelse pos :: rest) env Q :=
  X_step fun hh tk R => wpAny_If (go (h hh tk R) (fun b h' tk' m' σ' R' q => by
    cases b <;> exact q _ _ R') fun _ _ x => x)

theorem X_Return {e : Expr} {pos : Pos} {rest : List Stmt} {Q : Flow → LM → ST → Prop} (h : W C A g L E m σ (eval e env) (fun v => Q (.ret v))) :
    X C A g L E m σ (.Return (some e) pos :: rest) env Q :=
  X_step fun hh tk R => wpAny_Return_some (wpAny_mono (h hh tk R) (fun v s₁ p => p.mono fun _ _ _ q => q) fun _ _ x => x)
theorem X_Continue {pos : Pos} {rest : List Stmt} {Q : Flow → LM → ST → Prop} (h : Q .cont m σ) : X C A g L E m σ (.Continue pos :: rest) env Q :=
  X_step fun hh tk R => wpAny_Continue ⟨hh, tk, m, σ, rfl, R, h⟩

/-- xs[i] = v -/
theorem W_setItem {a : Addr} {k : Int} {t : Tok} {v : Value} {vs : List V} {Q : Unit → LM → ST → Prop} (hl : σ a = some (.list vs)) (h0 : 0 ≤ k) (hk : k < vs.length) (hz : vs.length ≤ 1000)
    (h : Q () m (upd σ a (.list (vs.set k.toNat (er v))))) : W C A g L E m σ (setItem (.ref a) (.int k t) v) Q := fun hh tk R => by
  obtain ⟨cvs, n, e, hx⟩ := (R.own _ _ hl).1
  have hsz : cvs.size = vs.length := by rw [← hx]; simp
  refine ki_setAt (n := n) e h0 (by omega) (by omega) ?_
  have ho : HoldsO (hh.update a (Obj.mapSeq (·.setIfInBounds k.toNat v))) a (.list (vs.set k.toNat (er v))) := by
    refine ⟨cvs.setIfInBounds k.toNat v, n, ?_, ?_⟩
    · rw [Heap.get?_update_self _ e rfl]
      simp [Obj.mapSeq]
    · rw [← hx]; simp
  exact ⟨_, tk, m, _, rfl, R.change hl (Heap.SameBut.update ..) ho, h⟩

theorem X_SetItem {o i value : Expr} {p pos : Pos} {rest : List Stmt} {Q : Flow → LM → ST → Prop}
    (h : WE C A g L E m σ (eval value env) (fun v m₁ σ₁ => WE C A g L E m₁ σ₁ (eval o env) (fun ov m₂ σ₂ => WE C A g L E m₂ σ₂ (eval i env) (fun iv m₃ σ₃ =>
      ∃ a k vs, ov = .ref a ∧ iv = .int k ∧ σ₃ a = some (.list vs) ∧ 0 ≤ k ∧ k < vs.length ∧ vs.length ≤ 1000 ∧ X C A g L E m₃ (upd σ₃ a (.list (vs.set k.toNat v))) rest env Q))))
    (hs : swapsWith value (some (.Subscript o i p)) pos.line env = pure false) :
    X C A g L E m σ (.Assign [.Subscript o i p] value pos :: rest) env Q :=
  X_step fun hh tk R => by
    refine wpAny_Assign_Subscript (go (h hh tk R) (fun v h₁ tk₁ m₁ σ₁ R₁ q₁ => ?_) fun _ _ x => x) hs
    refine go (q₁ _ _ R₁) (fun ov h₂ tk₂ m₂ σ₂ R₂ q₂ => ?_) fun _ _ x => x
    refine go (q₂ _ _ R₂) (fun iv h₃ tk₃ m₃ σ₃ R₃ ⟨a, k, vs, ea, ek, hl, h0, hk, hz, q⟩ => ?_) fun _ _ x => x
    cases er_ref ea
    obtain ⟨t, rfl⟩ := er_int ek
    exact W_setItem (Q := fun _ => Then C A g L E rest env Q .next) hl h0 hk hz q _ _ R₃

/-- xs.append(v) -/
theorem X_append {x : Str} {p apos cpos epos : Pos} {elt : Expr} {rest : List Stmt} {a : Addr} {Q : Flow → LM → ST → Prop} (O : EnvOk env L) (hv : m.lookup x = some (.ref a)) (hsome : ∃ vs₀, σ a = some (.list vs₀))
    (h : WE C A g L E m σ (eval elt env) (fun v m₁ σ₁ => ∃ vs, σ₁ a = some (.list vs) ∧ vs.length ≤ 1000 ∧ X C A g L E m₁ (upd σ₁ a (.list (vs ++ [v]))) rest env Q))
    (hl : env.kindOf x = some .local) (hd : (x == ("__debug__" : Str)) = false)
    (hbase : attributeBase (.Name x p) "append" env (eval (.Name x p) env) = eval (.Name x p) env)
    (hfew : ((backTo cpos (starEach [elt] env)).all (fun x => !x.1) && (backToKw cpos (keywordEach [] env)).all (fun x => x.1.isSome)
      && decide (([elt] : List Expr).length + ([] : List Keyword).length + (if ([] : List Keyword).isEmpty then 0 else 1) < 30)) = true)
    (hline : (apos.endLine == cpos.line) = true)
    (htrees : backTo cpos (starEach [elt] env) = [(false, eval elt env)])
    (hi : interactive env = false) (hs : swapsWith (.Call (.Attribute (.Name x p) "append" apos) [elt] [] cpos) none epos.line env = pure false) :
    X C A g L E m σ (.Expr (.Call (.Attribute (.Name x p) "append" apos) [elt] [] cpos) epos :: rest) env Q :=
  X_step fun hh tk R => by
    refine wpAny_Expr (wpAny_Call_append hbase hfew hline htrees ?_) hi hs
    obtain ⟨vs₀, hvs⟩ := hsome
    obtain ⟨mc, F, k⟩ := R.fr
    obtain ⟨cv, h1, h2⟩ := k x _ hv
    cases er_ref h2
    refine wpAny_Name (wpAny_loadName_local O.kind hl (m := mc) (by rw [O.loc]; exact F.ns) h1 ?_) hd
    obtain ⟨cvs, n, e, hx⟩ := (R.own _ _ hvs).1
    refine ⟨a, cvs, rfl, ⟨_, n, e, rfl, rfl, rfl⟩, ?_⟩
    refine go (h hh tk R) (fun v h₁ tk₁ m₁ σ₁ R₁ ⟨vs, hl₁, hz, q⟩ => ?_) fun _ _ x => x
    obtain ⟨cvs₁, n₁, ee, hx₁⟩ := (R₁.own _ _ hl₁).1
    have hsz : cvs₁.size = vs.length := by rw [← hx₁]; simp
    refine append_at (hsz := sz1000 (by omega)) ee fun h' hs' ho' => ?_
    exact ⟨h', tk₁, m₁, _, rfl, R₁.change hl₁ hs' (mo := .list (vs ++ [er v])) ⟨_, _, ho', by rw [← hx₁]; simp⟩, q⟩

end

/-! ## Base4 -/

/-! the program's defs -/
def defAt (k : Nat) : Stmt := PySem.Challenge.pw_sj0081_01.main.body.getD k (.Pass ⟨0, 0, 0, 0⟩)
def dName : Stmt → Str
  | .FunctionDef n .. => n
  | _ => ""
def dParams : Stmt → Arguments
  | .FunctionDef _ a .. => a
  | _ => ⟨[], [], none, [], [], none, []⟩
def dBody : Stmt → List Stmt
  | .FunctionDef _ _ b .. => b
  | _ => []
def dScope : Stmt → Scope
  | .FunctionDef _ _ _ _ _ _ s _ _ _ => s
  | _ => default
def dArgs (d : Stmt) : List Str := (dParams d).args.map (·.arg)

abbrev fdOf (d : Stmt) (doc pm : Value) (an : Option Addr) (cd ct : Value) : FuncData := fnOf (dName d) (dName d) (dParams d) (dBody d) (dScope d) .none .none doc pm an cd ct

/-- the heap holds the def d at a -/
def IsFn (g : Heap) (a : Addr) (d : Stmt) : Prop :=
  ∃ o doc pm an cd ct, g.get? a = some o ∧ o.data = .func (fdOf d doc pm an cd ct) ∧ g.CodeRec cd (dName d)
theorem IsFn.keeps {g g' : Heap} {a : Addr} {d : Stmt} (h : IsFn g a d) (hk : ∀ b o, g.get? b = some o → g'.get? b = some o) : IsFn g' a d :=
  let ⟨o, doc, pm, an, cd, ct, h1, h2, h3⟩ := h; ⟨o, doc, pm, an, cd, ct, hk _ _ h1, h2, h3.keeps hk⟩

/-- a def with plain parameters, all places given -/
structure DefOk (d : Stmt) : Prop where
  cell : ∀ x ∈ (dScope d).names, x.2 ≠ .cell
  loc : ∀ x ∈ dArgs d, (dScope d).names.lookup x = some .local
  co : (dScope d).isCoroutine = false
  gen : (dScope d).isGenerator = false
  kind : (dScope d).kind = .function
  bind : ∀ (vals : List Value) doc pm an cd ct, vals.length = (dArgs d).length → bindArgs (fdOf d doc pm an cd ct) ⟨vals, []⟩ = pure ((dArgs d).zip vals)

/-- the places of the defs -/
def known : List Nat := [4, 5, 6, 7, 8, 9, 10, 11, 13, 14, 15, 16, 17, 19, 20, 21, 22, 23, 24, 25, 26, 27, 28, 30, 31, 32, 33, 34, 35, 36, 38, 39, 40, 41, 42, 43, 44]
/-- lists of a length -/
theorem len1 {α : Type} {l : List α} (h : l.length = 1) : ∃ a, l = [a] := match l, h with
  | [a], _ => ⟨a, rfl⟩
theorem len2 {α : Type} {l : List α} (h : l.length = 2) : ∃ a b, l = [a, b] := match l, h with
  | [a, b], _ => ⟨a, b, rfl⟩
theorem len3 {α : Type} {l : List α} (h : l.length = 3) : ∃ a b c, l = [a, b, c] := match l, h with
  | [a, b, c], _ => ⟨a, b, c, rfl⟩
theorem len4 {α : Type} {l : List α} (h : l.length = 4) : ∃ a b c d, l = [a, b, c, d] := match l, h with
  | [a, b, c, d], _ => ⟨a, b, c, d, rfl⟩
theorem len5 {α : Type} {l : List α} (h : l.length = 5) : ∃ a b c d e, l = [a, b, c, d, e] := match l, h with
  | [a, b, c, d, e], _ => ⟨a, b, c, d, e, rfl⟩

/-- the names of the top that the functions meet, and those of the interpreter -/
structure Glob (C : Cx) (g : Heap) : Prop where
  ng : g.Ns mainGlobals C.mg
  nb : g.Ns builtinsNs C.mb
  nolim : g.NoLimit
  bui : ∀ x : Str, x ≠ "__name__" → C.mb x = bootBuiltins x
  nomg : ∀ x ∈ (["len", "range", "enumerate", "min", "abs", "int"] : List Str), C.mg x = none
  fns : ∀ k ∈ known, ∃ a, C.mg (dName (defAt k)) = some (.ref a) ∧ IsFn g a (defAt k)
  exc : ∃ Cl bmB B nid iid, ExcBaseFacts B nid iid bmB ∧ OwnCls "DivisionByZero" Cl bmB nid C.mg g
theorem Glob.keeps {C : Cx} {g g' : Heap} (G : Glob C g) (hk : ∀ b o, g.get? b = some o → g'.get? b = some o) : Glob C g' :=
  ⟨G.ng.keeps hk, G.nb.keeps hk, G.nolim.keeps hk, G.bui, G.nomg, fun k h => let ⟨a, h1, h2⟩ := G.fns k h; ⟨a, h1, h2.keeps hk⟩, let ⟨Cl, bmB, B, nid, iid, F, O⟩ := G.exc; ⟨Cl, bmB, B, nid, iid, F, O.keeps hk⟩⟩
/-- the address of a def of the top -/
def fa (C : Cx) (k : Nat) : Addr := match C.mg (dName (defAt k)) with
  | some (.ref a) => a
  | _ => 0
theorem Glob.fn {C : Cx} {g : Heap} (G : Glob C g) {k : Nat} (h : k ∈ known) : C.mg (dName (defAt k)) = some (.ref (fa C k)) ∧ IsFn g (fa C k) (defAt k) := by
  obtain ⟨a, h1, h2⟩ := G.fns k h
  have : fa C k = a := by unfold fa; rw [h1]
  rw [this]; exact ⟨h1, h2⟩

/-! hiding the made objects: the callee's base -/
def hideST (σ : ST) (h : Heap) : Heap := ⟨h.objs.mapIdx fun i o => if (σ i).isSome then { o with data := .freed } else o, h.life⟩
theorem hideST_size (σ : ST) (h : Heap) : (hideST σ h).objs.size = h.objs.size := by simp [hideST]
theorem hideST_get (σ : ST) (h : Heap) (a : Addr) : (hideST σ h).get? a = if (σ a).isSome then none else h.get? a := by
  unfold Heap.get? hideST
  simp only [Array.getElem?_mapIdx]
  cases e : h.objs[a]? with
  | none => simp
  | some o =>
    simp only [Option.map_some]
    by_cases hs : (σ a).isSome = true
    · simp [hs]
    · simp [hs]

/-- room on the stack -/
structure Room (A : Around) (n : Nat) : Prop where
  handled : A.handled = none
  depth : A.depth + n < recursionLimit
  units : A.units + 5 * n + 20 < cLine
theorem Room.deeper {A : Around} {n : Nat} (h : Room A (n + 1)) (env : Env) : Room (A.deeper env) n := by
  refine ⟨h.handled, ?_, ?_⟩
  · have := h.depth; show A.depth + 1 + n < recursionLimit; omega
  · have := h.units; show A.units + 3 + 5 * n + 20 < cLine; omega
theorem Room.less {A : Around} {n k : Nat} (h : Room A n) (hk : k ≤ n) : Room A k := ⟨h.handled, by have := h.depth; omega, by have := h.units; omega⟩

theorem zip_lookup : ∀ (names : List Str) (vals : List Value) (x : Str) (v : V), (names.zip (vals.map er)).lookup x = some v → ∃ cv, (names.zip vals).lookup x = some cv ∧ er cv = v
  | [], _, _, _, h => by simp at h
  | _ :: _, [], _, _, h => by simp at h
  | y :: names, u :: vals, x, v, h => by
    simp only [List.map_cons, List.zip_cons_cons, List.lookup_cons] at h ⊢
    cases e : (x == y) with
    | true => rw [e] at h; simp only at h ⊢; exact ⟨u, rfl, Option.some.inj h⟩
    | false => rw [e] at h; simp only at h ⊢; exact zip_lookup names vals x v h

theorem lookup_of_mem {β : Type} {x : Str} {v : β} : ∀ {l : List (Str × β)}, (l.map (·.1)).Nodup → (x, v) ∈ l → l.lookup x = some v
  | (y, u) :: l, hn, h => by
    rw [List.lookup_cons]
    rcases List.mem_cons.mp h with e | h
    · cases e; simp
    · have hne : (x == y) = false := by
        have hy : y ∉ l.map (·.1) := (List.nodup_cons.mp hn).1
        cases hxy : (x == y) with
        | false => rfl
        | true => rw [beq_iff_eq.mp hxy] at h; exact absurd (List.mem_map_of_mem (f := (·.1)) h) hy
      rw [hne]
      exact lookup_of_mem (List.nodup_cons.mp hn).2 h
theorem mem_of_lookup {β : Type} {x : Str} {v : β} : ∀ {l : List (Str × β)}, l.lookup x = some v → (x, v) ∈ l
  | (y, u) :: l, h => by
    rw [List.lookup_cons] at h
    cases e : (x == y) with
    | true => rw [e] at h; cases h; rw [beq_iff_eq.mp e]; exact .head _
    | false => rw [e] at h; exact .tail _ (mem_of_lookup h)
theorem lookup_reverse {β : Type} {x : Str} {v : β} {l : List (Str × β)} (hn : (l.map (·.1)).Nodup) (h : l.lookup x = some v) : l.reverse.lookup x = some v :=
  lookup_of_mem (by rw [List.map_reverse]; exact (List.reverse_perm _).nodup_iff.mpr hn) (List.mem_reverse.mpr (mem_of_lookup h))

def NoE : Value → Shared → Prop := fun _ _ => False

section
variable {C : Cx} {A : Around} {g : Heap} {L : Addr} {E : Value → Shared → Prop} {m : LM} {σ : ST} {env : Env}

abbrev mkEnv (sc : Scope) (L : Addr) (q : Str) (a : Addr) (cd : Value) : Env :=
  { scope := sc, locals := L, globals := mainGlobals, cells := [], qual := q, func := some a, code := cd, frame := some L, builtins := builtinsNs }
theorem envOk_mk {sc : Scope} {L : Addr} {q : Str} {a : Addr} {cd : Value} (hk : sc.kind = .function) : EnvOk (mkEnv sc L q a cd) L := ⟨hk, rfl, rfl, rfl, rfl⟩

def retV : Flow → V
  | .ret v => er v
  | _ => .none

/-- a call of a def: the callee runs over all that is not the call's own -/
theorem W_call {d : Stmt} {a : Addr} {vals : List Value} {Q : V → ST → Prop} {n : Nat} (G : Glob C g) (hf : IsFn g a d) (D : DefOk d) (hnd : (dArgs d).Nodup) (room : Room A (n + 1))
    (hlen : vals.length = (dArgs d).length)
    (h : ∀ (g' : Heap) (L' : Addr) (q : Str) (cd : Value) (A' : Around), Glob C g' → Room A' n →
      X C A' g' L' NoE ((dArgs d).zip (vals.map er)) σ (dBody d) (mkEnv (dScope d) L' q a cd) (fun f _ σ' => Q (retV f) σ')) :
    W C A g L E m σ (PySem.call (.ref a) vals []) (fun v m' σ' => m' = m ∧ Q (er v) σ') := fun hh tk R => by
  obtain ⟨o, doc, pm, an, cd, ct, ho, hdata, hcd⟩ := hf
  obtain ⟨mc, F, kk⟩ := R.fr
  have keep : ∀ b ob, g.get? b = some ob → hh.get? b = some ob := F.keep
  have hroom : A.depth < recursionLimit := by have := room.depth; omega
  have hbinds : ∀ x ∈ (dArgs d).zip vals, (dScope d).names.lookup x.1 = some .local := fun x hx => D.loc x.1 (List.of_mem_zip hx).1
  refine wpAny_call (codeAny_call_def (s := shared C hh tk) (binds := (dArgs d).zip vals) hroom (keep _ _ ho) hdata (G.nolim.keeps keep) (hcd.keeps keep) rfl (BindsTo.of_eq (D.bind vals doc pm an cd ct hlen)) D.cell hbinds (fun h₀ hns hk => ?_) D.co D.gen D.kind)
  have gk : ∀ b ob, g.get? b = some ob → (hideST σ hh).get? b = some ob := fun b ob e => by
    rw [hideST_get]
    cases hs : σ b with
    | none => simpa using keep _ _ e
    | some x => rw [(R.own b x hs).2.2] at e; cases e
  have Lin : ∀ ob, hh.get? L = some ob → (hideST σ hh).get? L = some ob := fun ob e => by
    rw [hideST_get]
    cases hs : σ L with
    | none => simpa using e
    | some x => exact absurd rfl (R.own L x hs).2.1
  have R' : Rel (hideST σ hh) hh.objs.size ((dArgs d).zip (vals.map er)) σ h₀ := by
    refine ⟨⟨_, ⟨hns, fun b ob e => hk b ob ?_, ?_⟩, fun x v e => ?_⟩, fun b ob e => ⟨(R.own b ob e).1.at fun _ q => hk _ _ q, Nat.ne_of_lt (R.own b ob e).1.lt, ?_⟩⟩
    · rw [hideST_get] at e
      cases hs : σ b with
      | none => simp [hs] at e; exact e
      | some x => simp [hs] at e
    · cases e : (hideST σ hh).get? hh.objs.size with
      | none => rfl
      | some x => have := Heap.lt_size e; rw [hideST_size] at this; exact absurd this (Nat.lt_irrefl _)
    · obtain ⟨cv, h1, h2⟩ := zip_lookup _ _ _ _ e
      refine ⟨cv, lookup_reverse ?_ h1, h2⟩
      rw [List.map_fst_zip (by omega)]; exact hnd
    · rw [hideST_get, e]; rfl
  have G' : Glob C (hideST σ hh) := G.keeps gk
  have hX := h (hideST σ hh) hh.objs.size (dName d ++ ".<locals>.") cd (A.deeper (callEnv (fdOf d doc pm an cd ct) hh.objs.size a)) G' (room.deeper _) h₀ (tk + ((dArgs d).zip vals).length) R'
  refine go hX (fun f h₁ tk₁ m₁ σ₁ R₁ q => ?_) (fun _ _ x => x.elim)
  have Rb : Rel g L m σ₁ h₁ := by
    obtain ⟨mc₁, F₁, _⟩ := R₁.fr
    refine ⟨⟨mc, ⟨?_, fun b ob e => F₁.keep _ _ (gk b ob e), F.low⟩, kk⟩, fun b ob e => ⟨(R₁.own b ob e).1, ?_, ?_⟩⟩
    · exact F.ns.at' fun ob e => F₁.keep _ _ (Lin ob e)
    · intro hb
      have hn := (R₁.own b ob e).2.2
      obtain ⟨oL, es, ep, hL, _⟩ := F.ns
      rw [hb, Lin _ hL] at hn; cases hn
    · cases hg : g.get? b with
      | none => rfl
      | some x => have := (R₁.own b ob e).2.2; rw [gk _ _ hg] at this; cases this
  cases f with
  | ret v => exact ⟨h₁, tk₁, m, σ₁, rfl, Rb, rfl, q⟩
  | next => exact ⟨h₁, tk₁, m, σ₁, rfl, Rb, rfl, q⟩
  | brk => exact ⟨h₁, tk₁, m, σ₁, rfl, Rb, rfl, q⟩
  | cont => exact ⟨h₁, tk₁, m, σ₁, rfl, Rb, rfl, q⟩

/-- a contract: what a call of a def asks and gives -/
abbrev Spec := List V → ST → (V → ST → Prop) → Prop
/-- the def d, called, keeps the contract (n frames at most) -/
def Con (C : Cx) (n : Nat) (d : Stmt) (S : Spec) : Prop :=
  ∀ (A : Around) (g : Heap) (L : Addr) (E : Value → Shared → Prop) (m : LM) (σ : ST) (a : Addr) (vals : List Value) (Q : V → ST → Prop),
    Glob C g → Room A n → IsFn g a d → S (vals.map er) σ Q → W C A g L E m σ (PySem.call (.ref a) vals []) (fun v m' σ' => m' = m ∧ Q (er v) σ')

/-- a contract by the def's body -/
theorem Con.mk {d : Stmt} {S : Spec} {n : Nat} (names : List Str) (hn : dArgs d = names) (D : DefOk d) (hnd : names.Nodup)
    (h : ∀ (g' : Heap) (L' : Addr) (q : Str) (a : Addr) (cd : Value) (A' : Around) (vs : List V) (σ : ST) (Q : V → ST → Prop), Glob C g' → Room A' n → S vs σ Q →
      vs.length = names.length ∧ X C A' g' L' NoE (names.zip vs) σ (dBody d) (mkEnv (dScope d) L' q a cd) (fun f _ σ' => Q (retV f) σ')) : Con C (n + 1) d S :=
  fun A g L E m σ a vals Q G room hf hs => W_call G hf D (hn ▸ hnd) room (by have := (h g L "" a .none A _ _ _ G (room.less (Nat.le_succ n)) hs).1; rw [hn]; simpa using this) fun g' L' q cd A' G' room' => by rw [hn]; exact (h g' L' q a cd A' _ _ _ G' room' hs).2

theorem WE_callAt {f : Expr} {fn : Str} {p pos : Pos} {e : Expr} {args : List Expr} {d : Stmt} {S : Spec} {n : Nat} {a : Addr} {Q : V → LM → ST → Prop} (con : Con C n d S) (G : Glob C g) (room : Room A n) (hf : IsFn g a d)
    (hname : ∀ (Q' : Value → LM → ST → Prop), Q' (.ref a) m σ → W C A g L E m σ (eval (.Name fn p) env) Q')
    (h : WS C A g L E m σ pos (e :: args) env (fun vs m₁ σ₁ => S vs σ₁ (fun v σ₂ => Q v m₁ σ₂)))
    (he : backTo pos (starEach (e :: args) env) = (false, eval e env) :: backTo pos (starEach args env)) :
    WE C A g L E m σ (eval (.Call (.Name fn p) (e :: args) [] pos) env) Q := fun hh tk R => by
  obtain ⟨o, doc, pm, an, cd, ct, ho, hdata, hcd⟩ := id hf
  refine wpAny_Call_NameR (go (hname (fun v m' σ' => v = .ref a ∧ m' = m ∧ σ' = σ) ⟨rfl, rfl, rfl⟩ hh tk R) (fun v h₁ tk₁ m₁ σ₁ R₁ ⟨ev, em, es⟩ => ?_) fun _ _ x => x)
  subst ev em es
  refine Calls.callWith_function (o := o) (fd := fdOf d doc pm an cd ct) ?_
  have h' : W C A g L E m₁ σ₁ (spliced ((false, eval e env) :: backTo pos (starEach args env))) (fun vs m₁ σ₁ => S (vs.map er) σ₁ (fun v σ₂ => Q v m₁ σ₂)) := by
    rw [← he]; exact h
  rw [he]
  refine Calls.evalArgs_plain (go (h' h₁ tk₁ R₁) (fun vs h₂ tk₂ m₂ σ₂ R₂ q => ?_) fun _ _ x => x)
  obtain ⟨mc, F, _⟩ := R₂.fr
  refine ⟨⟨F.keep _ _ ho, hdata⟩, ?_⟩
  exact wpAny_mono (con A g L E m₂ σ₂ a vs _ G room hf q h₂ tk₂ R₂) (fun v s₃ p => p.mono fun v m' σ' ⟨em, q⟩ => by subst em; exact q) fun _ _ x => x

theorem W_global {x : Str} {p : Pos} {v : Value} {Q : Value → LM → ST → Prop} (O : EnvOk env L) (G : Glob C g) (hv : C.mg x = some v) (h : Q v m σ) (hk : env.kindOf x = some .globalImplicit) (hd : (x == ("__debug__" : Str)) = false) :
    W C A g L E m σ (eval (.Name x p) env) Q := fun hh tk R => by
  obtain ⟨mc, F, _⟩ := R.fr
  exact Calls.Name_function_global O.kind hk (Calls.loadGlobal_global (mg := C.mg) (by rw [O.glob]; exact G.ng.keeps F.keep) hv ⟨hh, tk, m, σ, rfl, R, h⟩) hd
theorem W_builtin {x : Str} {p : Pos} {v : Value} {Q : Value → LM → ST → Prop} (O : EnvOk env L) (G : Glob C g) (hx : x ∈ (["len", "range", "enumerate", "min", "abs", "int"] : List Str)) (hv : bootBuiltins x = some v) (h : Q v m σ)
    (hk : env.kindOf x = some .globalImplicit) (hd : (x == ("__debug__" : Str)) = false) (hn : x ≠ "__name__") :
    W C A g L E m σ (eval (.Name x p) env) Q := fun hh tk R => by
  obtain ⟨mc, F, _⟩ := R.fr
  exact Calls.Name_function_global O.kind hk (Calls.loadGlobal_builtin (mg := C.mg) (mb := C.mb) (by rw [O.glob]; exact G.ng.keeps F.keep) (G.nomg x hx) (by rw [O.bui]; exact G.nb.keeps F.keep) ((G.bui x hn).trans hv) ⟨hh, tk, m, σ, rfl, R, h⟩) hd

/-- a call of a def of the top, by its name -/
theorem WE_callG {k : Nat} {p pos : Pos} {fn : Str} {e : Expr} {args : List Expr} {S : Spec} {n : Nat} {Q : V → LM → ST → Prop} (con : Con C n (defAt k) S) (O : EnvOk env L) (G : Glob C g) (room : Room A n)
    (hk : k ∈ known) (hn : dName (defAt k) = fn)
    (h : WS C A g L E m σ pos (e :: args) env (fun vs m₁ σ₁ => S vs σ₁ (fun v σ₂ => Q v m₁ σ₂)))
    (he : backTo pos (starEach (e :: args) env) = (false, eval e env) :: backTo pos (starEach args env))
    (hg : env.kindOf fn = some .globalImplicit) (hd : (fn == ("__debug__" : Str)) = false) :
    WE C A g L E m σ (eval (.Call (.Name fn p) (e :: args) [] pos) env) Q :=
  WE_callAt (f := .Name fn p) con G room (G.fn hk).2 (fun Q' q => W_global O G (by rw [← hn]; exact (G.fn hk).1) q hg hd) h he
/-- a call of a def of the top that a local name holds -/
theorem WE_callL {k : Nat} {p pos : Pos} {fn : Str} {e : Expr} {args : List Expr} {S : Spec} {n : Nat} {Q : V → LM → ST → Prop} (con : Con C n (defAt k) S) (O : EnvOk env L) (G : Glob C g) (room : Room A n)
    (hk : k ∈ known)
    (hv : m.lookup fn = some (.ref (fa C k)))
    (h : WS C A g L E m σ pos (e :: args) env (fun vs m₁ σ₁ => S vs σ₁ (fun v σ₂ => Q v m₁ σ₂)))
    (he : backTo pos (starEach (e :: args) env) = (false, eval e env) :: backTo pos (starEach args env))
    (hg : env.kindOf fn = some .local) (hd : (fn == ("__debug__" : Str)) = false) :
    WE C A g L E m σ (eval (.Call (.Name fn p) (e :: args) [] pos) env) Q :=
  WE_callAt (f := .Name fn p) con G room (G.fn hk).2 (fun Q' q hh tk R => by
    obtain ⟨mc, F, kk⟩ := R.fr
    obtain ⟨cv, h1, h2⟩ := kk fn _ hv
    cases er_ref h2
    exact wpAny_Name (wpAny_loadName_local O.kind hg (m := mc) (by rw [O.loc]; exact F.ns) h1 ⟨hh, tk, m, σ, rfl, R, q⟩) hd) h he

end

set_option linter.unusedVariables false
noncomputable def ldr (P : Params) : DictEntry := match (PySem.W.boot_o_3 P).data with | .dict es _ => es.toList.getD 3 ⟨0, .none, .none⟩ | _ => ⟨0, .none, .none⟩
noncomputable def ob0 (P : Params) : Obj := W.boot_o_0 P
noncomputable def ob1 (P : Params) : Obj := Obj.mk (Value.type "dict") none (Data.dict #[DictEntry.mk (PyData.keyHash P (Str.ofString "builtins")) (Value.str (Str.ofString "builtins") 162) (Value.ref 4), DictEntry.mk (PyData.keyHash P (Str.ofString "__main__")) (Value.str (Str.ofString "__main__") 163) (Value.ref 5)] 2) #[]
noncomputable def ob2 (P : Params) : Obj := Obj.mk Value.none none (Data.dict #[]) #[]
noncomputable def ob3 (P : Params) : Obj := Obj.mk (Value.type "dict") none (Data.dict #[DictEntry.mk (PyData.keyHash P (Str.ofString "__name__")) (Value.str (Str.ofString "__name__") 165) (Value.str (Str.ofString "__main__") 164), DictEntry.mk (PyData.keyHash P (Str.ofString "__doc__")) (Value.str (Str.ofString "__doc__") 166) Value.none, DictEntry.mk (PyData.keyHash P (Str.ofString "__package__")) (Value.str (Str.ofString "__package__") 167) Value.none, ldr P, DictEntry.mk (PyData.keyHash P (Str.ofString "__spec__")) (Value.str (Str.ofString "__spec__") 169) Value.none, DictEntry.mk (PyData.keyHash P (Str.ofString "__annotations__")) (Value.str (Str.ofString "__annotations__") 170) (Value.ref 6), DictEntry.mk (PyData.keyHash P (Str.ofString "__builtins__")) (Value.str (Str.ofString "__builtins__") 171) (Value.ref 4), DictEntry.mk (PyData.keyHash P (Str.ofString "__file__")) (Value.str (Str.ofString "__file__") 173) (Value.str (Str.ofString "/claim/cut.py") 172), DictEntry.mk (PyData.keyHash P (Str.ofString "__cached__")) (Value.str (Str.ofString "__cached__") 174) Value.none] 9) #[]
noncomputable def ob4 (P : Params) (n_1 : Nat) : Obj := Obj.mk (Value.type "module") (some (OfNat.ofNat n_1)) Data.plain #[]
noncomputable def ob5 (P : Params) : Obj := Obj.mk (Value.type "dict") none (Data.dict #[]) #[]
noncomputable def ob6 (P : Params) : Obj := Obj.mk (Value.type "tuple") none (Data.seq #[]) #[]
noncomputable def ob7 (P : Params) : Obj := Obj.mk Value.none none (Data.fields #[]) #[]
noncomputable def ob8 (P : Params) (s_1 : String) (n_2 : Nat) (n_10 : Nat) (n_30 : Nat) (n_32 : Nat) : Obj := Obj.mk (Value.type "code") none (Data.fields #[Value.str (Str.ofString s_1) (OfNat.ofNat n_2), Value.str (Str.ofString s_1) (OfNat.ofNat (n_2 + 1)), Value.str (Str.ofString "/claim/cut.py") (OfNat.ofNat (n_2 + 2)), Value.int (OfNat.ofNat n_10) 0, Value.int 0 0, Value.int 0 0, Value.int 0 0, Value.int 0 0, Value.ref (OfNat.ofNat n_30), Value.bool Bool.false, Value.int (OfNat.ofNat n_32) 0, Value.ref (OfNat.ofNat (n_30 + 1)), Value.none, Value.none, Value.none, Value.none, Value.int (OfNat.ofNat (n_2 + 3)) 0, Value.int (OfNat.ofNat n_10) 0, Value.str (Str.ofString "/claim/cut.py") (OfNat.ofNat (n_2 + 4))]) #[]
noncomputable def ob9 (P : Params) (n_1 : Nat) (n_5 : Nat) (s_7 : String) (n_8 : Nat) : Obj := Obj.mk (Value.type "frame") none Data.plain #[some (Value.ref (OfNat.ofNat n_1)), some (Value.ref 3), some (Value.ref (OfNat.ofNat n_5)), none, some (Value.str (Str.ofString s_7) (OfNat.ofNat n_8)), none, some (Value.ref 0)]
noncomputable def ob10 (P : Params) : Obj := Obj.mk Value.none none (Data.dict #[DictEntry.mk (PyData.keyHash P (Str.ofString "type.__subclasses__.Exception.0")) (Value.str (Str.ofString "type.__subclasses__.Exception.0") 205) (Value.int 24 0), DictEntry.mk (PyData.keyHash P (Str.ofString "type.__subclasses__.Exception.n")) (Value.str (Str.ofString "type.__subclasses__.Exception.n") 206) (Value.int 1 0)] 2) #[]
noncomputable def ob11 (P : Params) : Obj := Obj.mk (Value.type "dict") none (Data.dict #[DictEntry.mk (PyData.keyHash P (Str.ofString "__name__")) (Value.str (Str.ofString "__name__") 165) (Value.str (Str.ofString "gmp.limbs") 187), DictEntry.mk (PyData.keyHash P (Str.ofString "__doc__")) (Value.str (Str.ofString "__doc__") 166) Value.none, DictEntry.mk (PyData.keyHash P (Str.ofString "__package__")) (Value.str (Str.ofString "__package__") 167) Value.none, ldr P, DictEntry.mk (PyData.keyHash P (Str.ofString "__spec__")) (Value.str (Str.ofString "__spec__") 169) Value.none, DictEntry.mk (PyData.keyHash P (Str.ofString "__annotations__")) (Value.str (Str.ofString "__annotations__") 170) (Value.ref 6), DictEntry.mk (PyData.keyHash P (Str.ofString "__builtins__")) (Value.str (Str.ofString "__builtins__") 171) (Value.ref 4), DictEntry.mk (PyData.keyHash P (Str.ofString "__file__")) (Value.str (Str.ofString "__file__") 173) (Value.str (Str.ofString "/claim/cut.py") 172), DictEntry.mk (PyData.keyHash P (Str.ofString "__cached__")) (Value.str (Str.ofString "__cached__") 174) Value.none, DictEntry.mk (PyData.keyHash P (Str.ofString "GmpError")) (Value.str (Str.ofString "GmpError") 208) (Value.ref 24), DictEntry.mk (PyData.keyHash P (Str.ofString "DivisionByZero")) (Value.str (Str.ofString "DivisionByZero") 224) (Value.ref 37), DictEntry.mk (PyData.keyHash P (Str.ofString "OutOfRange")) (Value.str (Str.ofString "OutOfRange") 240) (Value.ref 49)] 12) #[]
noncomputable def ob12 (P : Params) : Obj := Obj.mk Value.none none (Data.fields #[Value.int 2 0, Value.int 0 0, Value.ref 20, Value.int 4 0, Value.int 0 0, Value.ref 33, Value.int 6 0, Value.int 0 0, Value.ref 45]) #[]
noncomputable def ob13 (P : Params) : Obj := Obj.mk (Value.type "tuple") none (Data.seq #[Value.type "Exception"]) #[]
noncomputable def ob14 (P : Params) : Obj := Obj.mk (Value.type "builtin_function_or_method") none (Data.fields #[Value.builtin "type.__prepare__", Value.type "type"]) #[]
noncomputable def ob15 (P : Params) (n_3 : Nat) (s_12 : String) (n_19 : Nat) (n_27 : Nat) : Obj := Obj.mk (Value.type "dict") none (Data.dict #[DictEntry.mk (PyData.keyHash P (Str.ofString "__module__")) (Value.str (Str.ofString "__module__") (OfNat.ofNat n_3)) (Value.str (Str.ofString "gmp.limbs") 187), DictEntry.mk (PyData.keyHash P (Str.ofString "__qualname__")) (Value.str (Str.ofString "__qualname__") (OfNat.ofNat (n_3 + 2))) (Value.str (Str.ofString s_12) (OfNat.ofNat (n_3 + 1))), DictEntry.mk (PyData.keyHash P (Str.ofString "__firstlineno__")) (Value.str (Str.ofString "__firstlineno__") (OfNat.ofNat (n_3 + 4))) (Value.int (OfNat.ofNat n_19) (OfNat.ofNat (n_3 + 3))), DictEntry.mk (PyData.keyHash P (Str.ofString "__static_attributes__")) (Value.str (Str.ofString "__static_attributes__") (OfNat.ofNat (n_3 + 5))) (Value.ref (OfNat.ofNat n_27))] 4) #[]
noncomputable def ob16 (P : Params) : Obj := Obj.mk (Value.type "dict") none (Data.dict #[DictEntry.mk (PyData.keyHash P (Str.ofString "__module__")) (Value.str (Str.ofString "__module__") 196) (Value.str (Str.ofString "gmp.limbs") 187), DictEntry.mk (PyData.keyHash P (Str.ofString "__firstlineno__")) (Value.str (Str.ofString "__firstlineno__") 200) (Value.int 2 199), DictEntry.mk (PyData.keyHash P (Str.ofString "__static_attributes__")) (Value.str (Str.ofString "__static_attributes__") 201) (Value.ref 22), DictEntry.mk (PyData.keyHash P (Str.ofString "__weakref__")) (Value.str (Str.ofString "__weakref__") 203) (Value.ref 25), DictEntry.mk (PyData.keyHash P (Str.ofString "__doc__")) (Value.str (Str.ofString "__doc__") 204) Value.none] 3) #[]
noncomputable def ob17 (P : Params) : Obj := Obj.mk (Value.type "type") none (Data.cls (ClassData.mk (Str.ofString "GmpError") [Value.type "Exception"] [Value.ref 24, Value.type "Exception", Value.type "BaseException", Value.type "object"] 23 (Str.ofString "GmpError") Bool.true [] [Value.ref 37, Value.ref 49] Bool.false none Bool.false)) #[some (Value.ref 15), none, some (Value.str (Str.ofString "GmpError") 189), some (Value.str (Str.ofString "GmpError") 197), some (Value.builtin "Exception.__new__"), some (Value.bool Bool.true)]
noncomputable def ob18 (P : Params) : Obj := Obj.mk (Value.type "getset_descriptor") none (Data.fields #[Value.str (Str.ofString "__weakref__") 202, Value.ref 24, Value.builtin "ExceptionGroup.__weakref__", Value.none]) #[]
noncomputable def ob19 (P : Params) (n_1 : Nat) : Obj := Obj.mk (Value.type "super") none (Data.fields #[Value.ref (OfNat.ofNat n_1), Value.ref (OfNat.ofNat n_1), Value.ref (OfNat.ofNat n_1)]) #[]
noncomputable def ob20 (P : Params) (n_2 : Nat) : Obj := Obj.mk (Value.type "builtin_function_or_method") none (Data.fields #[Value.builtin "object.__init_subclass__", Value.ref (OfNat.ofNat n_2)]) #[]
noncomputable def ob21 (P : Params) : Obj := Obj.mk (Value.type "tuple") none (Data.seq #[Value.ref 24]) #[]
noncomputable def ob22 (P : Params) (n_3 : Nat) (n_12 : Nat) (n_20 : Nat) : Obj := Obj.mk (Value.type "dict") none (Data.dict #[DictEntry.mk (PyData.keyHash P (Str.ofString "__module__")) (Value.str (Str.ofString "__module__") (OfNat.ofNat n_3)) (Value.str (Str.ofString "gmp.limbs") 187), DictEntry.mk (PyData.keyHash P (Str.ofString "__firstlineno__")) (Value.str (Str.ofString "__firstlineno__") (OfNat.ofNat (n_3 + 4))) (Value.int (OfNat.ofNat n_12) (OfNat.ofNat (n_3 + 3))), DictEntry.mk (PyData.keyHash P (Str.ofString "__static_attributes__")) (Value.str (Str.ofString "__static_attributes__") (OfNat.ofNat (n_3 + 5))) (Value.ref (OfNat.ofNat n_20)), DictEntry.mk (PyData.keyHash P (Str.ofString "__doc__")) (Value.str (Str.ofString "__doc__") (OfNat.ofNat (n_3 + 6))) Value.none] 2) #[]
noncomputable def ob23 (P : Params) (s_1 : String) (n_4 : Nat) (n_11 : Nat) (n_12 : Nat) (n_14 : Nat) (n_15 : Nat) (n_17 : Nat) : Obj := Obj.mk (Value.type "type") none (Data.cls (ClassData.mk (Str.ofString s_1) [Value.ref 24] [Value.ref (OfNat.ofNat n_4), Value.ref 24, Value.type "Exception", Value.type "BaseException", Value.type "object"] (OfNat.ofNat n_11) (Str.ofString s_1) Bool.true [] [] Bool.false none Bool.false)) #[some (Value.ref (OfNat.ofNat n_14)), none, some (Value.str (Str.ofString s_1) (OfNat.ofNat n_17)), some (Value.str (Str.ofString s_1) (OfNat.ofNat (n_17 + 8))), some (Value.builtin "Exception.__new__"), some (Value.bool Bool.true)]
noncomputable def ob24 (P : Params) : Obj := Obj.mk (Value.type "dict") none (Data.dict #[DictEntry.mk (PyData.keyHash P (Str.ofString "__name__")) (Value.str (Str.ofString "__name__") 165) (Value.str (Str.ofString "gmp.signed") 335), DictEntry.mk (PyData.keyHash P (Str.ofString "__doc__")) (Value.str (Str.ofString "__doc__") 166) Value.none, DictEntry.mk (PyData.keyHash P (Str.ofString "__package__")) (Value.str (Str.ofString "__package__") 167) Value.none, ldr P, DictEntry.mk (PyData.keyHash P (Str.ofString "__spec__")) (Value.str (Str.ofString "__spec__") 169) Value.none, DictEntry.mk (PyData.keyHash P (Str.ofString "__annotations__")) (Value.str (Str.ofString "__annotations__") 170) (Value.ref 6), DictEntry.mk (PyData.keyHash P (Str.ofString "__builtins__")) (Value.str (Str.ofString "__builtins__") 171) (Value.ref 4), DictEntry.mk (PyData.keyHash P (Str.ofString "__file__")) (Value.str (Str.ofString "__file__") 173) (Value.str (Str.ofString "/claim/cut.py") 172), DictEntry.mk (PyData.keyHash P (Str.ofString "__cached__")) (Value.str (Str.ofString "__cached__") 174) Value.none, DictEntry.mk (PyData.keyHash P (Str.ofString "GmpError")) (Value.str (Str.ofString "GmpError") 208) (Value.ref 24), DictEntry.mk (PyData.keyHash P (Str.ofString "DivisionByZero")) (Value.str (Str.ofString "DivisionByZero") 224) (Value.ref 37), DictEntry.mk (PyData.keyHash P (Str.ofString "OutOfRange")) (Value.str (Str.ofString "OutOfRange") 240) (Value.ref 49), DictEntry.mk (PyData.keyHash P (Str.ofString "normal")) (Value.str (Str.ofString "normal") 248) (Value.ref 58), DictEntry.mk (PyData.keyHash P (Str.ofString "compare")) (Value.str (Str.ofString "compare") 257) (Value.ref 65), DictEntry.mk (PyData.keyHash P (Str.ofString "add")) (Value.str (Str.ofString "add") 270) (Value.ref 72), DictEntry.mk (PyData.keyHash P (Str.ofString "sub")) (Value.str (Str.ofString "sub") 284) (Value.ref 79), DictEntry.mk (PyData.keyHash P (Str.ofString "divrem_limb")) (Value.str (Str.ofString "divrem_limb") 296) (Value.ref 86), DictEntry.mk (PyData.keyHash P (Str.ofString "shift_left")) (Value.str (Str.ofString "shift_left") 311) (Value.ref 93), DictEntry.mk (PyData.keyHash P (Str.ofString "shift_right")) (Value.str (Str.ofString "shift_right") 326) (Value.ref 100), DictEntry.mk (PyData.keyHash P (Str.ofString "bits")) (Value.str (Str.ofString "bits") 334) (Value.ref 107), DictEntry.mk (PyData.keyHash P (Str.ofString "signed")) (Value.str (Str.ofString "signed") 344) (Value.ref 114)] 21) #[]
noncomputable def ob25 (P : Params) : Obj := Obj.mk Value.none none (Data.fields #[Value.int 2 0, Value.int 0 0, Value.ref 20, Value.int 4 0, Value.int 0 0, Value.ref 33, Value.int 6 0, Value.int 0 0, Value.ref 45, Value.int 8 0, Value.int 0 0, Value.ref 57, Value.int 13 0, Value.int 0 0, Value.ref 64, Value.int 20 0, Value.int 0 0, Value.ref 71, Value.int 35 0, Value.int 0 0, Value.ref 78, Value.int 44 0, Value.int 0 0, Value.ref 85, Value.int 53 0, Value.int 0 0, Value.ref 92, Value.int 65 0, Value.int 0 0, Value.ref 99, Value.int 72 0, Value.int 0 0, Value.ref 106, Value.int 75 0, Value.int 0 0, Value.ref 113]) #[]
noncomputable def ob26 (P : Params) (s_1 : String) (n_2 : Nat) (s_4 : String) : Obj := Obj.mk (Value.type "tuple") none (Data.seq #[Value.str (Str.ofString s_1) (OfNat.ofNat n_2), Value.str (Str.ofString s_4) (OfNat.ofNat (n_2 + 1))]) #[]
noncomputable def ob27 (P : Params) (s_0 : String) (n_2 : Nat) : Obj := Obj.mk Value.none none (Data.func (FuncData.mk (Str.ofString s_0) (Str.ofString s_0) (Mine.dParams (Mine.defAt n_2)) (FuncBody.stmts (Mine.dBody (Mine.defAt n_2))) (Mine.dScope (Mine.defAt n_2)) 0 [] Value.none Value.none Value.none Value.none none Value.none Value.none 0)) #[]
noncomputable def ob28 (P : Params) (s_1 : String) (n_2 : Nat) (n_10 : Nat) (n_14 : Nat) (n_30 : Nat) (n_44 : Nat) : Obj := Obj.mk (Value.type "code") none (Data.fields #[Value.str (Str.ofString s_1) (OfNat.ofNat n_2), Value.str (Str.ofString s_1) (OfNat.ofNat (n_2 + 1)), Value.str (Str.ofString "/claim/cut.py") (OfNat.ofNat (n_2 + 2)), Value.int (OfNat.ofNat n_10) 0, Value.int (OfNat.ofNat n_14) 0, Value.int 0 0, Value.int 0 0, Value.int 3 0, Value.ref (OfNat.ofNat n_30), Value.bool Bool.true, Value.int 181 0, Value.ref (OfNat.ofNat (n_30 + 1)), Value.none, Value.ref (OfNat.ofNat (n_30 + 2)), Value.ref (OfNat.ofNat (n_30 + 3)), Value.ref (OfNat.ofNat (n_30 + 4)), Value.int (OfNat.ofNat n_44) 0, Value.int (OfNat.ofNat n_10) 0, Value.str (Str.ofString "/claim/cut.py") (OfNat.ofNat (n_44 + 1))]) #[]
noncomputable def ob29 (P : Params) (s_1 : String) (n_3 : Nat) (s_8 : String) (n_9 : Nat) (n_11 : Nat) : Obj := Obj.mk (Value.type "function") none (Data.func (FuncData.mk (Str.ofString s_1) (Str.ofString s_1) (Mine.dParams (Mine.defAt n_3)) (FuncBody.stmts (Mine.dBody (Mine.defAt n_3))) (Mine.dScope (Mine.defAt n_3)) 3 [] Value.none Value.none Value.none (Value.str (Str.ofString s_8) (OfNat.ofNat n_9)) none (Value.ref (OfNat.ofNat n_11)) Value.none 0)) #[]
noncomputable def ob30 (P : Params) (s_1 : String) (n_2 : Nat) (s_4 : String) (s_7 : String) : Obj := Obj.mk (Value.type "tuple") none (Data.seq #[Value.str (Str.ofString s_1) (OfNat.ofNat n_2), Value.str (Str.ofString s_4) (OfNat.ofNat (n_2 + 1)), Value.str (Str.ofString s_7) (OfNat.ofNat (n_2 + 2))]) #[]
noncomputable def ob31 (P : Params) (s_1 : String) (n_2 : Nat) (s_10 : String) (s_13 : String) (s_16 : String) (s_19 : String) : Obj := Obj.mk (Value.type "tuple") none (Data.seq #[Value.str (Str.ofString s_1) (OfNat.ofNat n_2), Value.str (Str.ofString "b") (OfNat.ofNat (n_2 + 1)), Value.str (Str.ofString "w") (OfNat.ofNat (n_2 + 2)), Value.str (Str.ofString s_10) (OfNat.ofNat (n_2 + 3)), Value.str (Str.ofString s_13) (OfNat.ofNat (n_2 + 4)), Value.str (Str.ofString s_16) (OfNat.ofNat (n_2 + 5)), Value.str (Str.ofString s_19) (OfNat.ofNat (n_2 + 6))]) #[]
noncomputable def ob32 (P : Params) (s_1 : String) (n_2 : Nat) (s_4 : String) (s_7 : String) (s_10 : String) (s_13 : String) (s_16 : String) (s_19 : String) (s_22 : String) : Obj := Obj.mk (Value.type "tuple") none (Data.seq #[Value.str (Str.ofString s_1) (OfNat.ofNat n_2), Value.str (Str.ofString s_4) (OfNat.ofNat (n_2 + 1)), Value.str (Str.ofString s_7) (OfNat.ofNat (n_2 + 2)), Value.str (Str.ofString s_10) (OfNat.ofNat (n_2 + 3)), Value.str (Str.ofString s_13) (OfNat.ofNat (n_2 + 4)), Value.str (Str.ofString s_16) (OfNat.ofNat (n_2 + 5)), Value.str (Str.ofString s_19) (OfNat.ofNat (n_2 + 6)), Value.str (Str.ofString s_22) (OfNat.ofNat (n_2 + 7))]) #[]
noncomputable def ob33 (P : Params) : Obj := Obj.mk (Value.type "tuple") none (Data.seq #[Value.str (Str.ofString "a") 288, Value.str (Str.ofString "limb") 289, Value.str (Str.ofString "w") 290, Value.str (Str.ofString "found") 291, Value.str (Str.ofString "rest") 292, Value.str (Str.ofString "at") 293]) #[]
noncomputable def ob34 (P : Params) (n_2 : Nat) (s_19 : String) (s_22 : String) (s_25 : String) : Obj := Obj.mk (Value.type "tuple") none (Data.seq #[Value.str (Str.ofString "a") (OfNat.ofNat n_2), Value.str (Str.ofString "n") (OfNat.ofNat (n_2 + 1)), Value.str (Str.ofString "w") (OfNat.ofNat (n_2 + 2)), Value.str (Str.ofString "spots") (OfNat.ofNat (n_2 + 3)), Value.str (Str.ofString "few") (OfNat.ofNat (n_2 + 4)), Value.str (Str.ofString "found") (OfNat.ofNat (n_2 + 5)), Value.str (Str.ofString s_19) (OfNat.ofNat (n_2 + 6)), Value.str (Str.ofString s_22) (OfNat.ofNat (n_2 + 7)), Value.str (Str.ofString s_25) (OfNat.ofNat (n_2 + 8))]) #[]
noncomputable def ob35 (P : Params) : Obj := Obj.mk (Value.type "dict") none (Data.dict #[DictEntry.mk (PyData.keyHash P (Str.ofString "__name__")) (Value.str (Str.ofString "__name__") 165) (Value.str (Str.ofString "gmp.rationals") 379), DictEntry.mk (PyData.keyHash P (Str.ofString "__doc__")) (Value.str (Str.ofString "__doc__") 166) Value.none, DictEntry.mk (PyData.keyHash P (Str.ofString "__package__")) (Value.str (Str.ofString "__package__") 167) Value.none, ldr P, DictEntry.mk (PyData.keyHash P (Str.ofString "__spec__")) (Value.str (Str.ofString "__spec__") 169) Value.none, DictEntry.mk (PyData.keyHash P (Str.ofString "__annotations__")) (Value.str (Str.ofString "__annotations__") 170) (Value.ref 6), DictEntry.mk (PyData.keyHash P (Str.ofString "__builtins__")) (Value.str (Str.ofString "__builtins__") 171) (Value.ref 4), DictEntry.mk (PyData.keyHash P (Str.ofString "__file__")) (Value.str (Str.ofString "__file__") 173) (Value.str (Str.ofString "/claim/cut.py") 172), DictEntry.mk (PyData.keyHash P (Str.ofString "__cached__")) (Value.str (Str.ofString "__cached__") 174) Value.none, DictEntry.mk (PyData.keyHash P (Str.ofString "GmpError")) (Value.str (Str.ofString "GmpError") 208) (Value.ref 24), DictEntry.mk (PyData.keyHash P (Str.ofString "DivisionByZero")) (Value.str (Str.ofString "DivisionByZero") 224) (Value.ref 37), DictEntry.mk (PyData.keyHash P (Str.ofString "OutOfRange")) (Value.str (Str.ofString "OutOfRange") 240) (Value.ref 49), DictEntry.mk (PyData.keyHash P (Str.ofString "normal")) (Value.str (Str.ofString "normal") 248) (Value.ref 58), DictEntry.mk (PyData.keyHash P (Str.ofString "compare")) (Value.str (Str.ofString "compare") 257) (Value.ref 65), DictEntry.mk (PyData.keyHash P (Str.ofString "add")) (Value.str (Str.ofString "add") 270) (Value.ref 72), DictEntry.mk (PyData.keyHash P (Str.ofString "sub")) (Value.str (Str.ofString "sub") 284) (Value.ref 79), DictEntry.mk (PyData.keyHash P (Str.ofString "divrem_limb")) (Value.str (Str.ofString "divrem_limb") 296) (Value.ref 86), DictEntry.mk (PyData.keyHash P (Str.ofString "shift_left")) (Value.str (Str.ofString "shift_left") 311) (Value.ref 93), DictEntry.mk (PyData.keyHash P (Str.ofString "shift_right")) (Value.str (Str.ofString "shift_right") 326) (Value.ref 100), DictEntry.mk (PyData.keyHash P (Str.ofString "bits")) (Value.str (Str.ofString "bits") 334) (Value.ref 107), DictEntry.mk (PyData.keyHash P (Str.ofString "signed")) (Value.str (Str.ofString "signed") 344) (Value.ref 114), DictEntry.mk (PyData.keyHash P (Str.ofString "s_neg")) (Value.str (Str.ofString "s_neg") 351) (Value.ref 121), DictEntry.mk (PyData.keyHash P (Str.ofString "s_compare")) (Value.str (Str.ofString "s_compare") 359) (Value.ref 128), DictEntry.mk (PyData.keyHash P (Str.ofString "s_add")) (Value.str (Str.ofString "s_add") 368) (Value.ref 135), DictEntry.mk (PyData.keyHash P (Str.ofString "s_mul")) (Value.str (Str.ofString "s_mul") 378) (Value.ref 142), DictEntry.mk (PyData.keyHash P (Str.ofString "common")) (Value.str (Str.ofString "common") 390) (Value.ref 149), DictEntry.mk (PyData.keyHash P (Str.ofString "cut_signed")) (Value.str (Str.ofString "cut_signed") 400) (Value.ref 156), DictEntry.mk (PyData.keyHash P (Str.ofString "signed_of")) (Value.str (Str.ofString "signed_of") 407) (Value.ref 163), DictEntry.mk (PyData.keyHash P (Str.ofString "r_neg")) (Value.str (Str.ofString "r_neg") 414) (Value.ref 170), DictEntry.mk (PyData.keyHash P (Str.ofString "r_add")) (Value.str (Str.ofString "r_add") 430) (Value.ref 177), DictEntry.mk (PyData.keyHash P (Str.ofString "r_sub")) (Value.str (Str.ofString "r_sub") 441) (Value.ref 184)] 31) #[]
noncomputable def ob36 (P : Params) : Obj := Obj.mk Value.none none (Data.fields #[Value.int 2 0, Value.int 0 0, Value.ref 20, Value.int 4 0, Value.int 0 0, Value.ref 33, Value.int 6 0, Value.int 0 0, Value.ref 45, Value.int 8 0, Value.int 0 0, Value.ref 57, Value.int 13 0, Value.int 0 0, Value.ref 64, Value.int 20 0, Value.int 0 0, Value.ref 71, Value.int 35 0, Value.int 0 0, Value.ref 78, Value.int 44 0, Value.int 0 0, Value.ref 85, Value.int 53 0, Value.int 0 0, Value.ref 92, Value.int 65 0, Value.int 0 0, Value.ref 99, Value.int 72 0, Value.int 0 0, Value.ref 106, Value.int 75 0, Value.int 0 0, Value.ref 113, Value.int 77 0, Value.int 0 0, Value.ref 120, Value.int 79 0, Value.int 0 0, Value.ref 127, Value.int 83 0, Value.int 0 0, Value.ref 134, Value.int 89 0, Value.int 0 0, Value.ref 141, Value.int 92 0, Value.int 0 0, Value.ref 148, Value.int 96 0, Value.int 0 0, Value.ref 155, Value.int 98 0, Value.int 0 0, Value.ref 162, Value.int 100 0, Value.int 0 0, Value.ref 169, Value.int 102 0, Value.int 0 0, Value.ref 176, Value.int 110 0, Value.int 0 0, Value.ref 183]) #[]
noncomputable def ob37 (P : Params) (s_1 : String) (n_2 : Nat) : Obj := Obj.mk (Value.type "tuple") none (Data.seq #[Value.str (Str.ofString s_1) (OfNat.ofNat n_2)]) #[]
noncomputable def ob38 (P : Params) (s_1 : String) (n_2 : Nat) (s_4 : String) (s_7 : String) (s_10 : String) : Obj := Obj.mk (Value.type "tuple") none (Data.seq #[Value.str (Str.ofString s_1) (OfNat.ofNat n_2), Value.str (Str.ofString s_4) (OfNat.ofNat (n_2 + 1)), Value.str (Str.ofString s_7) (OfNat.ofNat (n_2 + 2)), Value.str (Str.ofString s_10) (OfNat.ofNat (n_2 + 3))]) #[]
noncomputable def ob39 (P : Params) (s_1 : String) (n_2 : Nat) (s_4 : String) (s_7 : String) (s_10 : String) (s_13 : String) (s_16 : String) (s_19 : String) (s_22 : String) (s_25 : String) (s_28 : String) : Obj := Obj.mk (Value.type "tuple") none (Data.seq #[Value.str (Str.ofString s_1) (OfNat.ofNat n_2), Value.str (Str.ofString s_4) (OfNat.ofNat (n_2 + 1)), Value.str (Str.ofString s_7) (OfNat.ofNat (n_2 + 2)), Value.str (Str.ofString s_10) (OfNat.ofNat (n_2 + 3)), Value.str (Str.ofString s_13) (OfNat.ofNat (n_2 + 4)), Value.str (Str.ofString s_16) (OfNat.ofNat (n_2 + 5)), Value.str (Str.ofString s_19) (OfNat.ofNat (n_2 + 6)), Value.str (Str.ofString s_22) (OfNat.ofNat (n_2 + 7)), Value.str (Str.ofString s_25) (OfNat.ofNat (n_2 + 8)), Value.str (Str.ofString s_28) (OfNat.ofNat (n_2 + 9))]) #[]
noncomputable def ob40 (P : Params) (s_1 : String) (n_2 : Nat) (s_4 : String) (s_10 : String) (s_13 : String) : Obj := Obj.mk (Value.type "tuple") none (Data.seq #[Value.str (Str.ofString s_1) (OfNat.ofNat n_2), Value.str (Str.ofString s_4) (OfNat.ofNat (n_2 + 1)), Value.str (Str.ofString "w") (OfNat.ofNat (n_2 + 2)), Value.str (Str.ofString s_10) (OfNat.ofNat (n_2 + 3)), Value.str (Str.ofString s_13) (OfNat.ofNat (n_2 + 4))]) #[]
noncomputable def ob41 (P : Params) : Obj := Obj.mk (Value.type "dict") none (Data.dict #[DictEntry.mk (PyData.keyHash P (Str.ofString "__name__")) (Value.str (Str.ofString "__name__") 165) (Value.str (Str.ofString "gmp.school") 484), DictEntry.mk (PyData.keyHash P (Str.ofString "__doc__")) (Value.str (Str.ofString "__doc__") 166) Value.none, DictEntry.mk (PyData.keyHash P (Str.ofString "__package__")) (Value.str (Str.ofString "__package__") 167) Value.none, ldr P, DictEntry.mk (PyData.keyHash P (Str.ofString "__spec__")) (Value.str (Str.ofString "__spec__") 169) Value.none, DictEntry.mk (PyData.keyHash P (Str.ofString "__annotations__")) (Value.str (Str.ofString "__annotations__") 170) (Value.ref 6), DictEntry.mk (PyData.keyHash P (Str.ofString "__builtins__")) (Value.str (Str.ofString "__builtins__") 171) (Value.ref 4), DictEntry.mk (PyData.keyHash P (Str.ofString "__file__")) (Value.str (Str.ofString "__file__") 173) (Value.str (Str.ofString "/claim/cut.py") 172), DictEntry.mk (PyData.keyHash P (Str.ofString "__cached__")) (Value.str (Str.ofString "__cached__") 174) Value.none, DictEntry.mk (PyData.keyHash P (Str.ofString "GmpError")) (Value.str (Str.ofString "GmpError") 208) (Value.ref 24), DictEntry.mk (PyData.keyHash P (Str.ofString "DivisionByZero")) (Value.str (Str.ofString "DivisionByZero") 224) (Value.ref 37), DictEntry.mk (PyData.keyHash P (Str.ofString "OutOfRange")) (Value.str (Str.ofString "OutOfRange") 240) (Value.ref 49), DictEntry.mk (PyData.keyHash P (Str.ofString "normal")) (Value.str (Str.ofString "normal") 248) (Value.ref 58), DictEntry.mk (PyData.keyHash P (Str.ofString "compare")) (Value.str (Str.ofString "compare") 257) (Value.ref 65), DictEntry.mk (PyData.keyHash P (Str.ofString "add")) (Value.str (Str.ofString "add") 270) (Value.ref 72), DictEntry.mk (PyData.keyHash P (Str.ofString "sub")) (Value.str (Str.ofString "sub") 284) (Value.ref 79), DictEntry.mk (PyData.keyHash P (Str.ofString "divrem_limb")) (Value.str (Str.ofString "divrem_limb") 296) (Value.ref 86), DictEntry.mk (PyData.keyHash P (Str.ofString "shift_left")) (Value.str (Str.ofString "shift_left") 311) (Value.ref 93), DictEntry.mk (PyData.keyHash P (Str.ofString "shift_right")) (Value.str (Str.ofString "shift_right") 326) (Value.ref 100), DictEntry.mk (PyData.keyHash P (Str.ofString "bits")) (Value.str (Str.ofString "bits") 334) (Value.ref 107), DictEntry.mk (PyData.keyHash P (Str.ofString "signed")) (Value.str (Str.ofString "signed") 344) (Value.ref 114), DictEntry.mk (PyData.keyHash P (Str.ofString "s_neg")) (Value.str (Str.ofString "s_neg") 351) (Value.ref 121), DictEntry.mk (PyData.keyHash P (Str.ofString "s_compare")) (Value.str (Str.ofString "s_compare") 359) (Value.ref 128), DictEntry.mk (PyData.keyHash P (Str.ofString "s_add")) (Value.str (Str.ofString "s_add") 368) (Value.ref 135), DictEntry.mk (PyData.keyHash P (Str.ofString "s_mul")) (Value.str (Str.ofString "s_mul") 378) (Value.ref 142), DictEntry.mk (PyData.keyHash P (Str.ofString "common")) (Value.str (Str.ofString "common") 390) (Value.ref 149), DictEntry.mk (PyData.keyHash P (Str.ofString "cut_signed")) (Value.str (Str.ofString "cut_signed") 400) (Value.ref 156), DictEntry.mk (PyData.keyHash P (Str.ofString "signed_of")) (Value.str (Str.ofString "signed_of") 407) (Value.ref 163), DictEntry.mk (PyData.keyHash P (Str.ofString "r_neg")) (Value.str (Str.ofString "r_neg") 414) (Value.ref 170), DictEntry.mk (PyData.keyHash P (Str.ofString "r_add")) (Value.str (Str.ofString "r_add") 430) (Value.ref 177), DictEntry.mk (PyData.keyHash P (Str.ofString "r_sub")) (Value.str (Str.ofString "r_sub") 441) (Value.ref 184), DictEntry.mk (PyData.keyHash P (Str.ofString "r_mul")) (Value.str (Str.ofString "r_mul") 455) (Value.ref 191), DictEntry.mk (PyData.keyHash P (Str.ofString "r_inverse")) (Value.str (Str.ofString "r_inverse") 462) (Value.ref 198), DictEntry.mk (PyData.keyHash P (Str.ofString "r_div")) (Value.str (Str.ofString "r_div") 473) (Value.ref 205), DictEntry.mk (PyData.keyHash P (Str.ofString "r_compare")) (Value.str (Str.ofString "r_compare") 483) (Value.ref 212), DictEntry.mk (PyData.keyHash P (Str.ofString "mul_school")) (Value.str (Str.ofString "mul_school") 501) (Value.ref 219), DictEntry.mk (PyData.keyHash P (Str.ofString "divrem_small")) (Value.str (Str.ofString "divrem_small") 512) (Value.ref 226), DictEntry.mk (PyData.keyHash P (Str.ofString "guessed_limb")) (Value.str (Str.ofString "guessed_limb") 526) (Value.ref 233), DictEntry.mk (PyData.keyHash P (Str.ofString "take_away")) (Value.str (Str.ofString "take_away") 542) (Value.ref 240), DictEntry.mk (PyData.keyHash P (Str.ofString "put_back")) (Value.str (Str.ofString "put_back") 556) (Value.ref 247)] 40) #[]
noncomputable def ob42 (P : Params) : Obj := Obj.mk Value.none none (Data.fields #[Value.int 2 0, Value.int 0 0, Value.ref 20, Value.int 4 0, Value.int 0 0, Value.ref 33, Value.int 6 0, Value.int 0 0, Value.ref 45, Value.int 8 0, Value.int 0 0, Value.ref 57, Value.int 13 0, Value.int 0 0, Value.ref 64, Value.int 20 0, Value.int 0 0, Value.ref 71, Value.int 35 0, Value.int 0 0, Value.ref 78, Value.int 44 0, Value.int 0 0, Value.ref 85, Value.int 53 0, Value.int 0 0, Value.ref 92, Value.int 65 0, Value.int 0 0, Value.ref 99, Value.int 72 0, Value.int 0 0, Value.ref 106, Value.int 75 0, Value.int 0 0, Value.ref 113, Value.int 77 0, Value.int 0 0, Value.ref 120, Value.int 79 0, Value.int 0 0, Value.ref 127, Value.int 83 0, Value.int 0 0, Value.ref 134, Value.int 89 0, Value.int 0 0, Value.ref 141, Value.int 92 0, Value.int 0 0, Value.ref 148, Value.int 96 0, Value.int 0 0, Value.ref 155, Value.int 98 0, Value.int 0 0, Value.ref 162, Value.int 100 0, Value.int 0 0, Value.ref 169, Value.int 102 0, Value.int 0 0, Value.ref 176, Value.int 110 0, Value.int 0 0, Value.ref 183, Value.int 112 0, Value.int 0 0, Value.ref 190, Value.int 118 0, Value.int 0 0, Value.ref 197, Value.int 122 0, Value.int 0 0, Value.ref 204, Value.int 124 0, Value.int 0 0, Value.ref 211, Value.int 127 0, Value.int 0 0, Value.ref 218, Value.int 137 0, Value.int 0 0, Value.ref 225, Value.int 140 0, Value.int 0 0, Value.ref 232, Value.int 148 0, Value.int 0 0, Value.ref 239, Value.int 157 0, Value.int 0 0, Value.ref 246]) #[]
noncomputable def ob43 (P : Params) : Obj := Obj.mk (Value.type "dict") none (Data.dict #[DictEntry.mk (PyData.keyHash P (Str.ofString "__name__")) (Value.str (Str.ofString "__name__") 165) (Value.str (Str.ofString "law_sj0081_01") 583), DictEntry.mk (PyData.keyHash P (Str.ofString "__doc__")) (Value.str (Str.ofString "__doc__") 166) Value.none, DictEntry.mk (PyData.keyHash P (Str.ofString "__package__")) (Value.str (Str.ofString "__package__") 167) Value.none, ldr P, DictEntry.mk (PyData.keyHash P (Str.ofString "__spec__")) (Value.str (Str.ofString "__spec__") 169) Value.none, DictEntry.mk (PyData.keyHash P (Str.ofString "__annotations__")) (Value.str (Str.ofString "__annotations__") 170) (Value.ref 6), DictEntry.mk (PyData.keyHash P (Str.ofString "__builtins__")) (Value.str (Str.ofString "__builtins__") 171) (Value.ref 4), DictEntry.mk (PyData.keyHash P (Str.ofString "__file__")) (Value.str (Str.ofString "__file__") 173) (Value.str (Str.ofString "/claim/cut.py") 172), DictEntry.mk (PyData.keyHash P (Str.ofString "__cached__")) (Value.str (Str.ofString "__cached__") 174) Value.none, DictEntry.mk (PyData.keyHash P (Str.ofString "GmpError")) (Value.str (Str.ofString "GmpError") 208) (Value.ref 24), DictEntry.mk (PyData.keyHash P (Str.ofString "DivisionByZero")) (Value.str (Str.ofString "DivisionByZero") 224) (Value.ref 37), DictEntry.mk (PyData.keyHash P (Str.ofString "OutOfRange")) (Value.str (Str.ofString "OutOfRange") 240) (Value.ref 49), DictEntry.mk (PyData.keyHash P (Str.ofString "normal")) (Value.str (Str.ofString "normal") 248) (Value.ref 58), DictEntry.mk (PyData.keyHash P (Str.ofString "compare")) (Value.str (Str.ofString "compare") 257) (Value.ref 65), DictEntry.mk (PyData.keyHash P (Str.ofString "add")) (Value.str (Str.ofString "add") 270) (Value.ref 72), DictEntry.mk (PyData.keyHash P (Str.ofString "sub")) (Value.str (Str.ofString "sub") 284) (Value.ref 79), DictEntry.mk (PyData.keyHash P (Str.ofString "divrem_limb")) (Value.str (Str.ofString "divrem_limb") 296) (Value.ref 86), DictEntry.mk (PyData.keyHash P (Str.ofString "shift_left")) (Value.str (Str.ofString "shift_left") 311) (Value.ref 93), DictEntry.mk (PyData.keyHash P (Str.ofString "shift_right")) (Value.str (Str.ofString "shift_right") 326) (Value.ref 100), DictEntry.mk (PyData.keyHash P (Str.ofString "bits")) (Value.str (Str.ofString "bits") 334) (Value.ref 107), DictEntry.mk (PyData.keyHash P (Str.ofString "signed")) (Value.str (Str.ofString "signed") 344) (Value.ref 114), DictEntry.mk (PyData.keyHash P (Str.ofString "s_neg")) (Value.str (Str.ofString "s_neg") 351) (Value.ref 121), DictEntry.mk (PyData.keyHash P (Str.ofString "s_compare")) (Value.str (Str.ofString "s_compare") 359) (Value.ref 128), DictEntry.mk (PyData.keyHash P (Str.ofString "s_add")) (Value.str (Str.ofString "s_add") 368) (Value.ref 135), DictEntry.mk (PyData.keyHash P (Str.ofString "s_mul")) (Value.str (Str.ofString "s_mul") 378) (Value.ref 142), DictEntry.mk (PyData.keyHash P (Str.ofString "common")) (Value.str (Str.ofString "common") 390) (Value.ref 149), DictEntry.mk (PyData.keyHash P (Str.ofString "cut_signed")) (Value.str (Str.ofString "cut_signed") 400) (Value.ref 156), DictEntry.mk (PyData.keyHash P (Str.ofString "signed_of")) (Value.str (Str.ofString "signed_of") 407) (Value.ref 163), DictEntry.mk (PyData.keyHash P (Str.ofString "r_neg")) (Value.str (Str.ofString "r_neg") 414) (Value.ref 170), DictEntry.mk (PyData.keyHash P (Str.ofString "r_add")) (Value.str (Str.ofString "r_add") 430) (Value.ref 177), DictEntry.mk (PyData.keyHash P (Str.ofString "r_sub")) (Value.str (Str.ofString "r_sub") 441) (Value.ref 184), DictEntry.mk (PyData.keyHash P (Str.ofString "r_mul")) (Value.str (Str.ofString "r_mul") 455) (Value.ref 191), DictEntry.mk (PyData.keyHash P (Str.ofString "r_inverse")) (Value.str (Str.ofString "r_inverse") 462) (Value.ref 198), DictEntry.mk (PyData.keyHash P (Str.ofString "r_div")) (Value.str (Str.ofString "r_div") 473) (Value.ref 205), DictEntry.mk (PyData.keyHash P (Str.ofString "r_compare")) (Value.str (Str.ofString "r_compare") 483) (Value.ref 212), DictEntry.mk (PyData.keyHash P (Str.ofString "mul_school")) (Value.str (Str.ofString "mul_school") 501) (Value.ref 219), DictEntry.mk (PyData.keyHash P (Str.ofString "divrem_small")) (Value.str (Str.ofString "divrem_small") 512) (Value.ref 226), DictEntry.mk (PyData.keyHash P (Str.ofString "guessed_limb")) (Value.str (Str.ofString "guessed_limb") 526) (Value.ref 233), DictEntry.mk (PyData.keyHash P (Str.ofString "take_away")) (Value.str (Str.ofString "take_away") 542) (Value.ref 240), DictEntry.mk (PyData.keyHash P (Str.ofString "put_back")) (Value.str (Str.ofString "put_back") 556) (Value.ref 247), DictEntry.mk (PyData.keyHash P (Str.ofString "divide_rows")) (Value.str (Str.ofString "divide_rows") 569) (Value.ref 254), DictEntry.mk (PyData.keyHash P (Str.ofString "divrem_school")) (Value.str (Str.ofString "divrem_school") 582) (Value.ref 261), DictEntry.mk (PyData.keyHash P (Str.ofString "_law_walked")) (Value.str (Str.ofString "_law_walked") 592) (Value.ref 268), DictEntry.mk (PyData.keyHash P (Str.ofString "_law_least")) (Value.str (Str.ofString "_law_least") 602) (Value.ref 275), DictEntry.mk (PyData.keyHash P (Str.ofString "_law_limbs")) (Value.str (Str.ofString "_law_limbs") 611) (Value.ref 282), DictEntry.mk (PyData.keyHash P (Str.ofString "_law_fraction")) (Value.str (Str.ofString "_law_fraction") 619) (Value.ref 289), DictEntry.mk (PyData.keyHash P (Str.ofString "_law_drawn")) (Value.str (Str.ofString "_law_drawn") 626) (Value.ref 296), DictEntry.mk (PyData.keyHash P (Str.ofString "_law_due")) (Value.str (Str.ofString "_law_due") 636) (Value.ref 303), DictEntry.mk (PyData.keyHash P (Str.ofString "_law_done")) (Value.str (Str.ofString "_law_done") 646) (Value.ref 310), DictEntry.mk (PyData.keyHash P (Str.ofString "law")) (Value.str (Str.ofString "law") 652) (Value.ref 315)] 50) #[]
noncomputable def ob44 (P : Params) : Obj := Obj.mk Value.none none (Data.fields #[Value.int 2 0, Value.int 0 0, Value.ref 20, Value.int 4 0, Value.int 0 0, Value.ref 33, Value.int 6 0, Value.int 0 0, Value.ref 45, Value.int 8 0, Value.int 0 0, Value.ref 57, Value.int 13 0, Value.int 0 0, Value.ref 64, Value.int 20 0, Value.int 0 0, Value.ref 71, Value.int 35 0, Value.int 0 0, Value.ref 78, Value.int 44 0, Value.int 0 0, Value.ref 85, Value.int 53 0, Value.int 0 0, Value.ref 92, Value.int 65 0, Value.int 0 0, Value.ref 99, Value.int 72 0, Value.int 0 0, Value.ref 106, Value.int 75 0, Value.int 0 0, Value.ref 113, Value.int 77 0, Value.int 0 0, Value.ref 120, Value.int 79 0, Value.int 0 0, Value.ref 127, Value.int 83 0, Value.int 0 0, Value.ref 134, Value.int 89 0, Value.int 0 0, Value.ref 141, Value.int 92 0, Value.int 0 0, Value.ref 148, Value.int 96 0, Value.int 0 0, Value.ref 155, Value.int 98 0, Value.int 0 0, Value.ref 162, Value.int 100 0, Value.int 0 0, Value.ref 169, Value.int 102 0, Value.int 0 0, Value.ref 176, Value.int 110 0, Value.int 0 0, Value.ref 183, Value.int 112 0, Value.int 0 0, Value.ref 190, Value.int 118 0, Value.int 0 0, Value.ref 197, Value.int 122 0, Value.int 0 0, Value.ref 204, Value.int 124 0, Value.int 0 0, Value.ref 211, Value.int 127 0, Value.int 0 0, Value.ref 218, Value.int 137 0, Value.int 0 0, Value.ref 225, Value.int 140 0, Value.int 0 0, Value.ref 232, Value.int 148 0, Value.int 0 0, Value.ref 239, Value.int 157 0, Value.int 0 0, Value.ref 246, Value.int 164 0, Value.int 0 0, Value.ref 253, Value.int 174 0, Value.int 0 0, Value.ref 260, Value.int 188 0, Value.int 0 0, Value.ref 267, Value.int 193 0, Value.int 0 0, Value.ref 274, Value.int 199 0, Value.int 0 0, Value.ref 281, Value.int 205 0, Value.int 0 0, Value.ref 288, Value.int 207 0, Value.int 0 0, Value.ref 295, Value.int 209 0, Value.int 0 0, Value.ref 302, Value.int 220 0, Value.int 0 0, Value.ref 309, Value.int 227 0, Value.int 0 0, Value.ref 314]) #[]
noncomputable def ob45 (P : Params) : Obj := Obj.mk (Value.type "code") none (Data.fields #[Value.str (Str.ofString "law") 647, Value.str (Str.ofString "law") 648, Value.str (Str.ofString "/claim/cut.py") 649, Value.int 227 0, Value.int 1 0, Value.int 0 0, Value.int 0 0, Value.int 3 0, Value.ref 311, Value.bool Bool.true, Value.int 181 0, Value.ref 312, Value.none, Value.none, Value.none, Value.ref 313, Value.int 650 0, Value.int 227 0, Value.str (Str.ofString "/claim/cut.py") 651]) #[]
noncomputable def sg1 (P : Params) : List Obj := [ob0 P, ob1 P, ob10 P, ob43 P, ob4 P 0, ob4 P 3, ob5 P, ob6 P, ob7 P, ob8 P "<module>" 176 1 7 175, ob9 P 9 3 "__main__" 164, ob6 P, ob44 P, ob8 P "<module>" 182 1 11 181, ob9 P 13 3 "__main__" 164]
noncomputable def sg2 (P : Params) : List Obj := [ob13 P, ob14 P, ob15 P 196 "GmpError" 2 22, ob6 P, ob7 P, ob8 P "GmpError" 191 2 18 181, ob9 P 20 17 "gmp.limbs" 187, ob6 P, ob16 P, ob17 P, ob18 P, ob19 P 24, ob20 P 24, ob21 P, ob14 P, ob15 P 216 "DivisionByZero" 4 35, ob6 P, ob7 P, ob8 P "DivisionByZero" 211 4 31 181, ob9 P 33 30 "gmp.limbs" 187, ob6 P, ob22 P 216 4 35, ob23 P "DivisionByZero" 37 36 36 28 28 209, ob19 P 37, ob20 P 37, ob21 P, ob14 P, ob15 P 232 "OutOfRange" 6 47, ob6 P, ob7 P, ob8 P "OutOfRange" 227 6 43 181, ob9 P 45 42 "gmp.limbs" 187, ob6 P, ob22 P 232 6 47, ob23 P "OutOfRange" 49 48 48 40 40 225, ob19 P 49, ob20 P 49]
noncomputable def sg3 (P : Params) : List Obj := [ob6 P, ob7 P, ob26 P "a" 244 "end", ob6 P, ob27 P "normal" 4, ob28 P "normal" 241 8 1 52 246, ob29 P "normal" 4 "gmp.limbs" 187 57, ob6 P, ob7 P, ob30 P "a" 252 "b" "at", ob6 P, ob27 P "compare" 5, ob28 P "compare" 249 13 2 59 255, ob29 P "compare" 5 "gmp.limbs" 187 64, ob6 P, ob7 P, ob31 P "a" 261 "found" "carry" "mask" "at", ob6 P, ob27 P "add" 6, ob28 P "add" 258 20 3 66 268, ob29 P "add" 6 "gmp.limbs" 187 71, ob6 P, ob7 P, ob32 P "a" 274 "b" "w" "found" "borrow" "base" "at" "limb", ob6 P, ob27 P "sub" 7, ob28 P "sub" 271 35 3 73 282, ob29 P "sub" 7 "gmp.limbs" 187 78, ob6 P, ob7 P, ob33 P, ob6 P, ob27 P "divrem_limb" 8, ob28 P "divrem_limb" 285 44 3 80 294, ob29 P "divrem_limb" 8 "gmp.limbs" 187 85, ob6 P, ob7 P, ob34 P 300 "carry" "mask" "one", ob6 P, ob27 P "shift_left" 9, ob28 P "shift_left" 297 53 3 87 309, ob29 P "shift_left" 9 "gmp.limbs" 187 92, ob6 P, ob7 P, ob34 P 315 "mask" "at" "above", ob6 P, ob27 P "shift_right" 10, ob28 P "shift_right" 312 65 3 94 324, ob29 P "shift_right" 10 "gmp.limbs" 187 99, ob6 P, ob7 P, ob26 P "a" 330 "w", ob6 P, ob27 P "bits" 11, ob28 P "bits" 327 72 2 101 332, ob29 P "bits" 11 "gmp.limbs" 187 106, ob6 P, ob7 P, ob26 P "is_below" 340 "nat", ob6 P, ob27 P "signed" 13, ob28 P "signed" 337 75 2 108 342, ob29 P "signed" 13 "gmp.signed" 335 113]
noncomputable def sg4 (P : Params) : List Obj := [ob6 P, ob7 P, ob37 P "x" 348, ob6 P, ob27 P "s_neg" 14, ob28 P "s_neg" 345 77 1 115 349, ob29 P "s_neg" 14 "gmp.signed" 335 120, ob6 P, ob7 P, ob26 P "x" 355 "y", ob6 P, ob27 P "s_compare" 15, ob28 P "s_compare" 352 79 2 122 357, ob29 P "s_compare" 15 "gmp.signed" 335 127, ob6 P, ob7 P, ob30 P "x" 363 "y" "w", ob6 P, ob27 P "s_add" 16, ob28 P "s_add" 360 83 3 129 366, ob29 P "s_add" 16 "gmp.signed" 335 134, ob6 P, ob7 P, ob38 P "x" 372 "y" "w" "mul", ob6 P, ob27 P "s_mul" 17, ob28 P "s_mul" 369 89 4 136 376, ob29 P "s_mul" 17 "gmp.signed" 335 141, ob6 P, ob7 P, ob38 P "a" 384 "b" "w" "divrem", ob6 P, ob27 P "common" 19, ob28 P "common" 381 92 4 143 388, ob29 P "common" 19 "gmp.rationals" 379 148, ob6 P, ob7 P, ob38 P "x" 394 "d" "w" "divrem", ob6 P, ob27 P "cut_signed" 20, ob28 P "cut_signed" 391 96 4 150 398, ob29 P "cut_signed" 20 "gmp.rationals" 379 155, ob6 P, ob7 P, ob37 P "nat" 404, ob6 P, ob27 P "signed_of" 21, ob28 P "signed_of" 401 98 1 157 405, ob29 P "signed_of" 21 "gmp.rationals" 379 162, ob6 P, ob7 P, ob37 P "x" 411, ob6 P, ob27 P "r_neg" 22, ob28 P "r_neg" 408 100 1 164 412, ob29 P "r_neg" 22 "gmp.rationals" 379 169, ob6 P, ob7 P, ob39 P "x" 418 "y" "w" "mul" "divrem" "told" "here" "there" "top" "out", ob6 P, ob27 P "r_add" 23, ob28 P "r_add" 415 102 5 171 428, ob29 P "r_add" 23 "gmp.rationals" 379 176, ob6 P, ob7 P, ob40 P "x" 434 "y" "mul" "divrem", ob6 P, ob27 P "r_sub" 24, ob28 P "r_sub" 431 110 5 178 439, ob29 P "r_sub" 24 "gmp.rationals" 379 183]
noncomputable def sg5 (P : Params) : List Obj := [ob6 P, ob7 P, ob32 P "x" 445 "y" "w" "mul" "divrem" "one" "other" "top", ob6 P, ob27 P "r_mul" 25, ob28 P "r_mul" 442 112 5 185 453, ob29 P "r_mul" 25 "gmp.rationals" 379 190, ob6 P, ob7 P, ob37 P "x" 459, ob6 P, ob27 P "r_inverse" 26, ob28 P "r_inverse" 456 118 1 192 460, ob29 P "r_inverse" 26 "gmp.rationals" 379 197, ob6 P, ob7 P, ob40 P "x" 466 "y" "mul" "divrem", ob6 P, ob27 P "r_div" 27, ob28 P "r_div" 463 122 5 199 471, ob29 P "r_div" 27 "gmp.rationals" 379 204, ob6 P, ob7 P, ob38 P "x" 477 "y" "w" "mul", ob6 P, ob27 P "r_compare" 28, ob28 P "r_compare" 474 124 4 206 481, ob29 P "r_compare" 28 "gmp.rationals" 379 211, ob6 P, ob7 P, ob39 P "a" 489 "b" "w" "found" "mask" "at" "limb" "carry" "spot" "other", ob6 P, ob27 P "mul_school" 30, ob28 P "mul_school" 486 127 3 213 499, ob29 P "mul_school" 30 "gmp.school" 484 218, ob6 P, ob7 P, ob40 P "a" 505 "b" "quotient" "rest", ob6 P, ob27 P "divrem_small" 31, ob28 P "divrem_small" 502 137 3 220 510, ob29 P "divrem_small" 31 "gmp.school" 484 225, ob6 P, ob7 P, ob32 P "top" 516 "first" "second" "w" "high" "base" "limb" "rest", ob6 P, ob27 P "guessed_limb" 32, ob28 P "guessed_limb" 513 140 4 227 524, ob29 P "guessed_limb" 32 "gmp.school" 484 232, ob6 P, ob7 P, ob39 P "rest" 530 "b" "limb" "at" "w" "carry" "base" "spot" "other" "here", ob6 P, ob27 P "take_away" 33, ob28 P "take_away" 527 148 5 234 540, ob29 P "take_away" 33 "gmp.school" 484 239, ob6 P, ob7 P, ob32 P "rest" 546 "b" "at" "w" "carry" "mask" "spot" "other", ob6 P, ob27 P "put_back" 34, ob28 P "put_back" 543 157 4 241 554, ob29 P "put_back" 34 "gmp.school" 484 246]
noncomputable def sg6 (P : Params) : List Obj := [ob6 P, ob7 P, ob31 P "rest" 560 "size" "quotient" "at" "limb", ob6 P, ob27 P "divide_rows" 35, ob28 P "divide_rows" 557 164 3 248 567, ob29 P "divide_rows" 35 "gmp.school" 484 253, ob6 P, ob7 P, ob31 P "a" 573 "shift" "divisor" "rest" "quotient", ob6 P, ob27 P "divrem_school" 36, ob28 P "divrem_school" 570 174 3 255 580, ob29 P "divrem_school" 36 "gmp.school" 484 260, ob6 P, ob7 P, ob26 P "path" 588 "many", ob6 P, ob27 P "_law_walked" 38, ob28 P "_law_walked" 585 188 2 262 590, ob29 P "_law_walked" 38 "law_sj0081_01" 583 267, ob6 P, ob7 P, ob38 P "top" 596 "bottom" "one" "other", ob6 P, ob27 P "_law_least" 39, ob28 P "_law_least" 593 193 2 269 600, ob29 P "_law_least" 39 "law_sj0081_01" 583 274, ob6 P, ob7 P, ob30 P "number" 606 "w" "found", ob6 P, ob27 P "_law_limbs" 40, ob28 P "_law_limbs" 603 199 2 276 609, ob29 P "_law_limbs" 40 "law_sj0081_01" 583 281, ob6 P, ob7 P, ob26 P "pair" 615 "w", ob6 P, ob27 P "_law_fraction" 41, ob28 P "_law_fraction" 612 205 2 283 617, ob29 P "_law_fraction" 41 "law_sj0081_01" 583 288, ob6 P, ob7 P, ob37 P "path" 623, ob6 P, ob27 P "_law_drawn" 42, ob28 P "_law_drawn" 620 207 1 290 624, ob29 P "_law_drawn" 42 "law_sj0081_01" 583 295, ob6 P, ob7 P, ob38 P "form" 630 "one" "other" "sign", ob6 P, ob27 P "_law_due" 43, ob28 P "_law_due" 627 209 3 297 634, ob29 P "_law_due" 43 "law_sj0081_01" 583 302, ob6 P, ob7 P, ob38 P "form" 640 "x" "y" "w", ob6 P, ob27 P "_law_done" 44, ob28 P "_law_done" 637 220 4 304 644, ob29 P "_law_done" 44 "law_sj0081_01" 583 309, ob6 P, ob7 P, ob27 P "law" 45, ob45 P, ob29 P "law" 45 "law_sj0081_01" 583 314]
noncomputable def hp0 (P : Params) : Heap := Heap.mk (Array.mk ([ob0 P, ob1 P, ob2 P, ob3 P, ob4 P 0, ob4 P 3, ob5 P, ob6 P, ob7 P, ob8 P "<module>" 176 1 7 175, ob9 P 9 3 "__main__" 164, ob6 P, ob7 P, ob8 P "<module>" 182 1 11 181, ob9 P 13 3 "__main__" 164])) (Life.mk [] [] [] 0 [] [] Bool.false #[] [] 0 Bool.false Bool.false Bool.false 0 [2000, 10, 10] Bool.false 0 Bool.true [] [] 0 Bool.false)
noncomputable def hp1 (P : Params) : Heap := Heap.mk (Array.mk ([ob0 P, ob1 P, ob10 P, ob11 P, ob4 P 0, ob4 P 3, ob5 P, ob6 P, ob7 P, ob8 P "<module>" 176 1 7 175, ob9 P 9 3 "__main__" 164, ob6 P, ob12 P, ob8 P "<module>" 182 1 11 181, ob9 P 13 3 "__main__" 164] ++ sg2 P)) (Life.mk [] [] [] 0 [] [] Bool.false #[] [] 0 Bool.false Bool.false Bool.false 0 [2000, 10, 10] Bool.false 0 Bool.true [] [] 0 Bool.false)
noncomputable def hp2 (P : Params) : Heap := Heap.mk (Array.mk ([ob0 P, ob1 P, ob10 P, ob24 P, ob4 P 0, ob4 P 3, ob5 P, ob6 P, ob7 P, ob8 P "<module>" 176 1 7 175, ob9 P 9 3 "__main__" 164, ob6 P, ob25 P, ob8 P "<module>" 182 1 11 181, ob9 P 13 3 "__main__" 164] ++ sg2 P ++ sg3 P)) (Life.mk [] [] [] 0 [] [] Bool.false #[] [] 0 Bool.false Bool.false Bool.false 0 [2000, 10, 10] Bool.false 0 Bool.true [] [] 0 Bool.false)
noncomputable def hp3 (P : Params) : Heap := Heap.mk (Array.mk ([ob0 P, ob1 P, ob10 P, ob35 P, ob4 P 0, ob4 P 3, ob5 P, ob6 P, ob7 P, ob8 P "<module>" 176 1 7 175, ob9 P 9 3 "__main__" 164, ob6 P, ob36 P, ob8 P "<module>" 182 1 11 181, ob9 P 13 3 "__main__" 164] ++ sg2 P ++ sg3 P ++ sg4 P)) (Life.mk [] [] [] 0 [] [] Bool.false #[] [] 0 Bool.false Bool.false Bool.false 0 [2000, 10, 10] Bool.false 0 Bool.true [] [] 0 Bool.false)
noncomputable def hp4 (P : Params) : Heap := Heap.mk (Array.mk ([ob0 P, ob1 P, ob10 P, ob41 P, ob4 P 0, ob4 P 3, ob5 P, ob6 P, ob7 P, ob8 P "<module>" 176 1 7 175, ob9 P 9 3 "__main__" 164, ob6 P, ob42 P, ob8 P "<module>" 182 1 11 181, ob9 P 13 3 "__main__" 164] ++ sg2 P ++ sg3 P ++ sg4 P ++ sg5 P)) (Life.mk [] [] [] 0 [] [] Bool.false #[] [] 0 Bool.false Bool.false Bool.false 0 [2000, 10, 10] Bool.false 0 Bool.true [] [] 0 Bool.false)
noncomputable def hp5 (P : Params) : Heap := Heap.mk (Array.mk (sg1 P ++ sg2 P ++ sg3 P ++ sg4 P ++ sg5 P ++ sg6 P)) (Life.mk [] [] [] 0 [] [] Bool.false #[] [] 0 Bool.false Bool.false Bool.false 0 [2000, 10, 10] Bool.false 0 Bool.true [] [] 0 Bool.false)
abbrev hdP : Program := PySem.Challenge.rw_sj0081_01.prog
noncomputable def hdEnv : Env := { scope := hdP.main.scope, locals := mainNs, globals := mainNs, cells := [], code := .ref 13, frame := some 14 }
noncomputable def hdB : List Stmt := behindTheImports hdP
noncomputable def hdC : Code := .body hdB hdEnv
abbrev hdS (H : Params → Heap) (tk : Nat) (w : World) (os : OsState) : Shared := ⟨H w.params, Array.mk [], ⟨0, 0, 0, 0⟩, tk, os⟩
abbrev hdQ (a b c d : Nat) : Pos := ⟨a, b, c, d⟩
theorem hd_pre (w : World) (os : OsState) : topGo treeTable hdP w 11 (some (.ref 6)) 12 (hdS boot_heap 181 w os) (topStub hdP) = some (hdS hp0 187 w os, ⟨denote treeTable hdC, hdC, hdQ 0 0 0 0, [topFrame (hdQ 0 0 0 0)]⟩) := by kernel_rfl
theorem hd_block (w : World) (os : OsState) : segRun treeTable hdP w 11 (some (.ref 6)) 1 1 (hdS hp0 187 w os) (blockOf hdB hdEnv hdC (hdQ 0 0 0 0) [topFrame (hdQ 0 0 0 0)]) = some (.next, hdS hp0 187 w os, hdC, hdQ 0 0 0 0) := by kernel_rfl
theorem hd_run1 (w : World) (os : OsState) : segRun treeTable hdP w 11 (some (.ref 6)) 1 636 (hdS hp0 187 w os) (piecesOf ((hdB.drop 0).take 4) hdEnv hdC (hdQ 0 0 0 0) [topFrame (hdQ 0 0 0 0)]) = some (.next, hdS hp1 241 w os, hdC, (hdQ 6 0 7 8)) := by kernel_rfl
theorem hd_run2 (w : World) (os : OsState) : segRun treeTable hdP w 11 (some (.ref 6)) 1 320 (hdS hp1 241 w os) (piecesOf ((hdB.drop 4).take 10) hdEnv hdC (hdQ 6 0 7 8) [topFrame (hdQ 0 0 0 0)]) = some (.next, hdS hp2 345 w os, hdC, (hdQ 75 0 76 43)) := by kernel_rfl
theorem hd_run3 (w : World) (os : OsState) : segRun treeTable hdP w 11 (some (.ref 6)) 1 336 (hdS hp2 345 w os) (piecesOf ((hdB.drop 14).take 11) hdEnv hdC (hdQ 75 0 76 43) [topFrame (hdQ 0 0 0 0)]) = some (.next, hdS hp3 442 w os, hdC, (hdQ 110 0 111 45)) := by kernel_rfl
theorem hd_run4 (w : World) (os : OsState) : segRun treeTable hdP w 11 (some (.ref 6)) 1 331 (hdS hp3 442 w os) (piecesOf ((hdB.drop 25).take 10) hdEnv hdC (hdQ 110 0 111 45) [topFrame (hdQ 0 0 0 0)]) = some (.next, hdS hp4 557 w os, hdC, (hdQ 157 0 163 56)) := by kernel_rfl
theorem hd_run5 (w : World) (os : OsState) : segRun treeTable hdP w 11 (some (.ref 6)) 1 333 (hdS hp4 557 w os) (piecesOf ((hdB.drop 35).take 11) hdEnv hdC (hdQ 157 0 163 56) [topFrame (hdQ 0 0 0 0)]) = some (.next, hdS hp5 653 w os, hdC, (hdQ 227 0 253 15)) := by kernel_rfl
theorem hd_fin (w : World) (os : OsState) : topRun treeTable hdP w 11 (some (.ref 6)) 2 (hdS hp5 653 w os) ⟨doneF .next, hdC, (hdQ 227 0 253 15), [topFrame (hdQ 0 0 0 0)]⟩ = some (hdS hp5 653 w os) := by kernel_rfl
theorem hd_cut : hdB = ((hdB.drop 0).take 4) ++ (((hdB.drop 4).take 10) ++ (((hdB.drop 14).take 11) ++ (((hdB.drop 25).take 10) ++ (((hdB.drop 35).take 11) ++ [])))) := by kernel_rfl
theorem hd_rest (w : World) (os : OsState) : topRun treeTable hdP w 11 (some (.ref 6)) (636 + (320 + (336 + (331 + (333 + 2))))) (hdS hp0 187 w os) (PySem.W.restOf hdB hdEnv hdC (hdQ 0 0 0 0) [topFrame (hdQ 0 0 0 0)]) = some (hdS hp5 653 w os) :=
  Eq.subst (motive := fun l => topRun treeTable hdP w 11 (some (.ref 6)) (636 + (320 + (336 + (331 + (333 + 2))))) (hdS hp0 187 w os) (PySem.W.restOf l hdEnv hdC (hdQ 0 0 0 0) [topFrame (hdQ 0 0 0 0)]) = some (hdS hp5 653 w os)) hd_cut.symm
    (piece_app (n := 636) (N := (320 + (336 + (331 + (333 + 2))))) (l := ((hdB.drop 0).take 4)) (rest := ((hdB.drop 4).take 10) ++ (((hdB.drop 14).take 11) ++ (((hdB.drop 25).take 10) ++ (((hdB.drop 35).take 11) ++ ([]))))) (hd_run1 w os) (piece_app (n := 320) (N := (336 + (331 + (333 + 2)))) (l := ((hdB.drop 4).take 10)) (rest := ((hdB.drop 14).take 11) ++ (((hdB.drop 25).take 10) ++ (((hdB.drop 35).take 11) ++ ([])))) (hd_run2 w os) (piece_app (n := 336) (N := (331 + (333 + 2))) (l := ((hdB.drop 14).take 11)) (rest := ((hdB.drop 25).take 10) ++ (((hdB.drop 35).take 11) ++ ([]))) (hd_run3 w os) (piece_app (n := 331) (N := (333 + 2)) (l := ((hdB.drop 25).take 10)) (rest := ((hdB.drop 35).take 11) ++ ([])) (hd_run4 w os) (piece_app (n := 333) (N := 2) (l := ((hdB.drop 35).take 11)) (rest := []) (hd_run5 w os) (piece_nil (hd_fin w os)))))))
theorem hd_all (w : World) (os : OsState) : topRun treeTable hdP w 11 (some (.ref 6)) (12 + (1 + (636 + (320 + (336 + (331 + (333 + 2))))))) (hdS boot_heap 181 w os) (topStub hdP) = some (hdS hp5 653 w os) :=
  go_top (hd_pre w os) (piece_block (hd_block w os) (hd_rest w os))
theorem hd_look0 (w : World) (os : OsState) : (staticsOk (importedModules hdP.main.body) (boot_heap w.params) (hp5 w.params) && namesBound hdP (hp5 w.params) && gensDone (hdS hp5 653 w os) && laidKept (boot_heap w.params) (hp5 w.params)) = true := by kernel_rfl
theorem hd_look1 (w : World) (os : OsState) : seen ((recsOf Mine.vw).map (·.name)) (ownsOf Mine.vw) [] { (hdS hp5 653 w os) with gens := #[] } = expectedOf Mine.vw := by kernel_rfl
theorem hd_look2 (w : World) (os : OsState) : (hdS hp5 653 w os).heap.bltView = bltViewBooted := by kernel_rfl
theorem hd_look3 (w : World) (os : OsState) : ((hdS hp5 653 w os).heap.keysOk (looseW Mine.vw []) ((recsOf Mine.vw).map (·.name)) ((litsOf Mine.vw).map (·.1)) ((clssOf Mine.vw (looseW Mine.vw [])).map (·.name)) && (hdS hp5 653 w os).heap.accountedOkI (importedModules hdP.main.body) && (hdS hp5 653 w os).heap.isNs mainGlobals && (hdS hp5 653 w os).heap.isNs builtinsNs && tablesOk Mine.vw (hdS hp5 653 w os).heap && (xlAt Mine.vw [] (hdS hp5 653 w os) && recOk PySem.Challenge.rw_sj0081_01.row.toRowW.records (hdS hp5 653 w os)) && (if true then (hdS hp5 653 w os).gens.size == 0 else !leftWithCleanup (hdS hp5 653 w os).gens)) = true := by kernel_rfl
theorem hd_look4 (w : World) (os : OsState) : tabsOk Mine.vw (hdS hp5 653 w os) = true := by kernel_rfl
theorem hd_look5 (w : World) (os : OsState) : pinSeenD Mine.vw (drecsOf Mine.vw) (hdS hp5 653 w os) = pinGoodD (drecsOf Mine.vw) := by kernel_rfl
theorem hd_look6 (w : World) (os : OsState) : plainSeenE Mine.vw (looseW Mine.vw []) (hdS hp5 653 w os) = plainGoodE Mine.vw (looseW Mine.vw []) := by kernel_rfl
theorem hd_look7 (w : World) (os : OsState) : plainSeenD Mine.vw [] (hdS hp5 653 w os) = plainGoodD Mine.vw [] := by kernel_rfl
theorem hd_look8 (w : World) (os : OsState) : wideSeen Mine.vw (hdS hp5 653 w os) = wideGood Mine.vw := by kernel_rfl
theorem hd_look9 (w : World) (os : OsState) : clsSeenW Mine.vw [] (hdS hp5 653 w os) = clsGoodW Mine.vw [] := by kernel_rfl
theorem hd_seen (w : World) (os : OsState) : openSeen Mine.vw [] (importedModules hdP.main.body) (fun s => xlAt Mine.vw [] s && recOk PySem.Challenge.rw_sj0081_01.row.toRowW.records s) true (hdS hp5 653 w os) = openGood Mine.vw [] :=
  looks_pair (hd_look1 w os) (looks_pair (hd_look2 w os) (looks_pair (hd_look3 w os) (looks_pair (hd_look4 w os) (looks_pair (hd_look5 w os) (looks_pair (hd_look6 w os) (looks_pair (hd_look7 w os) (looks_pair (hd_look8 w os) (hd_look9 w os))))))))
theorem hd_open : ∀ w : World, (fencedOpening treeTable hdP w 3936).map (fun s => (s.heap, s.gens, s.drawn, s.toks)) = some (boot_heap w.params, Array.mk [], (⟨0, 0, 0, 0⟩ : Drawn), 181) :=
  boot_open (p := hdP) (N := 3936) (by kernel_rfl) (by rfl) (fun s => rfl)
theorem hd_looks (w : World) (os : OsState) : ((staticsOk (importedModules hdP.main.body) (boot_heap w.params) (hp5 w.params) && namesBound hdP (hp5 w.params) && gensDone (hdS hp5 653 w os) && laidKept (boot_heap w.params) (hp5 w.params)),
    openSeen Mine.vw [] (importedModules hdP.main.body) (fun s => xlAt Mine.vw [] s && recOk PySem.Challenge.rw_sj0081_01.row.toRowW.records s) true (hdS hp5 653 w os), Hook.obs Hook.none (hdS hp5 653 w os)) = (true, openGood Mine.vw [], Hook.val Hook.none w) := by
  exact looks_pair (hd_look0 w os) (looks_pair (hd_seen w os) rfl)
theorem left : LeftO PySem.Challenge.rw_sj0081_01.prog Mine.vw [] (fun s => xlAt Mine.vw [] s && recOk PySem.Challenge.rw_sj0081_01.row.toRowW.records s) (Hook.obs Hook.none) (Hook.val Hook.none) 3936 :=
  LeftO.of_pieces (H₀ := boot_heap) (H₁ := hp5) (M := 12 + (1 + (636 + (320 + (336 + (331 + (333 + 2))))))) hd_open (fun w => by as_aux_lemma => kernel_rfl) (fun w os => hd_all w os) (by rfl) (fun w => funext fun os => hd_looks w os)

theorem said : OpenLaw.wellSaid PySem.Challenge.rw_sj0081_01 = true := by
  unfold OpenLaw.wellSaid OpenRow.wellSaid OpenRow.partSaid looksOpen
  repeat' (with_reducible refine look_both ?_ ?_)
  all_goals decide +kernel

/-! ## Base5 -/

section
variable {C : Cx} {A : Around} {g : Heap} {L : Addr} {E : Value → Shared → Prop} {m : LM} {σ : ST} {env : Env}

/-! built-ins -/
theorem W_spl {pos : Pos} {e : Expr} {args : List Expr} {Q : List Value → LM → ST → Prop} (he : backTo pos (starEach (e :: args) env) = (false, eval e env) :: backTo pos (starEach args env))
    (h : W C A g L E m σ (spliced (backTo pos (starEach (e :: args) env))) Q) : W C A g L E m σ (spliced ((false, eval e env) :: backTo pos (starEach args env))) Q := by rw [← he]; exact h
theorem WE_callB {fn : Str} {id : String} {p pos : Pos} {e : Expr} {args : List Expr} {Q : V → LM → ST → Prop}
    (hname : ∀ (Q' : Value → LM → ST → Prop), Q' (.builtin id) m σ → W C A g L E m σ (eval (.Name fn p) env) Q')
    (h : W C A g L E m σ (spliced (backTo pos (starEach (e :: args) env))) (fun vs m₁ σ₁ => W C A g L E m₁ σ₁ (PySem.call (.builtin id) vs []) (fun v => Q (er v))))
    (he : backTo pos (starEach (e :: args) env) = (false, eval e env) :: backTo pos (starEach args env)) (hp : (backTo pos (starEach args env)).any (·.1) = false) :
    WE C A g L E m σ (eval (.Call (.Name fn p) (e :: args) [] pos) env) Q := fun hh tk R => by
  refine wpAny_Call_NameR (go (hname (fun v m' σ' => v = .builtin id ∧ m' = m ∧ σ' = σ) ⟨rfl, rfl, rfl⟩ hh tk R) (fun v h₁ tk₁ m₁ σ₁ R₁ ⟨ev, em, es⟩ => ?_) fun _ _ x => x)
  subst ev em es
  rw [he]
  refine Calls.callWith_builtin (by show (false || (backTo pos (starEach args env)).any (·.1)) = false; rw [hp]; rfl) (Calls.evalArgs_plain (go (W_spl he h h₁ tk₁ R₁) (fun vs h₂ tk₂ m₂ σ₂ R₂ q => ?_) fun _ _ x => x))
  exact q _ _ R₂
theorem WE_callT {fn : Str} {T : String} {p pos : Pos} {e : Expr} {args : List Expr} {Q : V → LM → ST → Prop}
    (hname : ∀ (Q' : Value → LM → ST → Prop), Q' (.type T) m σ → W C A g L E m σ (eval (.Name fn p) env) Q')
    (h : W C A g L E m σ (spliced (backTo pos (starEach (e :: args) env))) (fun vs m₁ σ₁ => W C A g L E m₁ σ₁ (PySem.call (.type T) vs []) (fun v => Q (er v))))
    (he : backTo pos (starEach (e :: args) env) = (false, eval e env) :: backTo pos (starEach args env)) (hp : (backTo pos (starEach args env)).any (·.1) = false) :
    WE C A g L E m σ (eval (.Call (.Name fn p) (e :: args) [] pos) env) Q := fun hh tk R => by
  refine wpAny_Call_NameR (go (hname (fun v m' σ' => v = .type T ∧ m' = m ∧ σ' = σ) ⟨rfl, rfl, rfl⟩ hh tk R) (fun v h₁ tk₁ m₁ σ₁ R₁ ⟨ev, em, es⟩ => ?_) fun _ _ x => x)
  subst ev em es
  rw [he]
  refine PySem.callWith_type (by show (false || (backTo pos (starEach args env)).any (·.1)) = false; rw [hp]; rfl) (Calls.evalArgs_plain (go (W_spl he h h₁ tk₁ R₁) (fun vs h₂ tk₂ m₂ σ₂ R₂ q => ?_) fun _ _ x => x))
  exact q _ _ R₂

theorem one_er {vs : List Value} {x : V} (h : vs.map er = [x]) : ∃ v, vs = [v] ∧ er v = x := by
  cases vs with
  | nil => cases h
  | cons v r => cases r with
    | cons _ _ => cases h
    | nil => exact ⟨v, rfl, by simpa using h⟩
theorem two_er {vs : List Value} {x y : V} (h : vs.map er = [x, y]) : ∃ v u, vs = [v, u] ∧ er v = x ∧ er u = y := by
  cases vs with
  | nil => cases h
  | cons v r =>
    simp only [List.map_cons, List.cons.injEq] at h
    obtain ⟨u, hu, e⟩ := one_er h.2
    exact ⟨v, u, by rw [hu], h.1, e⟩
theorem three_er {vs : List Value} {x y z : V} (h : vs.map er = [x, y, z]) : ∃ v u t, vs = [v, u, t] ∧ er v = x ∧ er u = y ∧ er t = z := by
  cases vs with
  | nil => cases h
  | cons v r =>
    simp only [List.map_cons, List.cons.injEq] at h
    obtain ⟨u, t, hu, e⟩ := two_er h.2
    exact ⟨v, u, t, by rw [hu], h.1, e⟩

theorem WE_len {p pos : Pos} {e : Expr} {Q : V → LM → ST → Prop} (O : EnvOk env L) (G : Glob C g)
    (h : WS C A g L E m σ pos [e] env (fun us m₁ σ₁ => ∃ a vs, us = [.ref a] ∧ σ₁ a = some (.list vs) ∧ vs.length ≤ 1000 ∧ Q (.int vs.length) m₁ σ₁))
    (he : backTo pos (starEach [e] env) = (false, eval e env) :: backTo pos (starEach [] env)) (hk : env.kindOf "len" = some .globalImplicit) :
    WE C A g L E m σ (eval (.Call (.Name "len" p) [e] [] pos) env) Q :=
  WE_callB (id := "len") (fun Q' q => W_builtin O G (by decide) (by decide +kernel) q hk (by decide) (by decide)) (W_mono h fun vs m₁ σ₁ ⟨a, xs, ev, hl, hz, q⟩ => fun hh tk R => by
    obtain ⟨v, rfl, e0⟩ := one_er ev
    cases er_ref e0
    obtain ⟨cvs, n, e, hx⟩ := (R.own _ _ hl).1
    have hsz : cvs.size = xs.length := by rw [← hx]; simp
    exact Calls.call_len_list (PySem.IsL.isList (n := n) e) (by omega) ⟨hh, _, m₁, σ₁, rfl, R, by show Q (.int cvs.size) m₁ σ₁; rw [hsz]; exact q⟩) he rfl

theorem WE_abs {p pos : Pos} {e : Expr} {Q : V → LM → ST → Prop} (O : EnvOk env L) (G : Glob C g)
    (h : WS C A g L E m σ pos [e] env (fun us m₁ σ₁ => ∃ a : Int, us = [.int a] ∧ Q (.int (if a < 0 then -a else a)) m₁ σ₁))
    (he : backTo pos (starEach [e] env) = (false, eval e env) :: backTo pos (starEach [] env)) (hk : env.kindOf "abs" = some .globalImplicit) :
    WE C A g L E m σ (eval (.Call (.Name "abs" p) [e] [] pos) env) Q :=
  WE_callB (id := "abs") (fun Q' q => W_builtin O G (by decide) (by decide +kernel) q hk (by decide) (by decide)) (W_mono h fun vs m₁ σ₁ ⟨a, ev, q⟩ => fun hh tk R => by
    obtain ⟨v, rfl, e⟩ := one_er ev
    obtain ⟨t, rfl⟩ := er_int e
    exact call_abs_int fun u tk' => ⟨hh, tk', m₁, σ₁, rfl, R, q⟩) he rfl

theorem WE_min {p pos : Pos} {e e' : Expr} {Q : V → LM → ST → Prop} (O : EnvOk env L) (G : Glob C g) (hh0 : A.handled = none)
    (h : WS C A g L E m σ pos [e, e'] env (fun us m₁ σ₁ => ∃ a b : Int, us = [.int a, .int b] ∧ Q (.int (if b < a then b else a)) m₁ σ₁))
    (he : backTo pos (starEach [e, e'] env) = (false, eval e env) :: backTo pos (starEach [e'] env)) (hp : (backTo pos (starEach [e'] env)).any (·.1) = false) (hk : env.kindOf "min" = some .globalImplicit) :
    WE C A g L E m σ (eval (.Call (.Name "min" p) [e, e'] [] pos) env) Q :=
  WE_callB (id := "min") (fun Q' q => W_builtin O G (by decide) (by decide +kernel) q hk (by decide) (by decide)) (W_mono h fun vs m₁ σ₁ ⟨a, b, ev, q⟩ => fun hh tk R => by
    obtain ⟨v, u, rfl, e, e'⟩ := two_er ev
    obtain ⟨t, rfl⟩ := er_int e
    obtain ⟨t', rfl⟩ := er_int e'
    refine min_two_ints hh0 fun h' tk' hk' => ⟨h', tk', m₁, σ₁, rfl, R.grow hk', ?_⟩
    by_cases hba : b < a
    · simp only [hba, if_true] at q ⊢; exact q
    · simp only [hba, if_false] at q ⊢; exact q) he hp

/-! loops -/
def TurnEnd (again : LM → ST → Prop) (Q : Flow → LM → ST → Prop) : Flow → LM → ST → Prop
  | .next, m, σ => again m σ
  | .cont, m, σ => again m σ
  | .brk, _, _ => False
  | .ret v, m, σ => Q (.ret v) m σ

theorem X_While {ι : Type} {test : Expr} {body rest : List Stmt} {pos : Pos} {Q : Flow → LM → ST → Prop} (μ : ι → Nat) (loc : ι → LM) (P : ι → ST → Prop) (i₀ : ι) (hs : Sub (loc i₀) m) (h0 : P i₀ σ)
    (turn : ∀ i σ', P i σ' → WT C A g L NoE (loc i) σ' test env (fun b m₁ σ₁ =>
      if b then X C A g L NoE m₁ σ₁ body env (TurnEnd (fun m₂ σ₂ => ∃ i', μ i' < μ i ∧ Sub (loc i') m₂ ∧ P i' σ₂) Q)
      else X C A g L E m₁ σ₁ rest env Q)) :
    X C A g L E m σ (.While test body [] pos :: rest) env Q :=
  X_step fun hh tk R => by
    refine wpAny_While (codeAny_whileLoop (fun k s' => ∃ i σ' h' tk', k = μ i ∧ s' = shared C h' tk' ∧ Rel g L (loc i) σ' h' ∧ P i σ') ?_ (μ i₀) ⟨i₀, σ, hh, tk, rfl, rfl, R.sub hs, h0⟩)
    rintro _ _ ⟨i, σ', h', tk', rfl, rfl, R', hP⟩
    refine go (turn i σ' hP h' tk' R') (fun b h₁ tk₁ m₁ σ₁ R₁ q => ?_) (fun _ _ x => x.elim)
    cases b with
    | false => exact wpAny_execs_nil ⟨h₁, tk₁, m₁, σ₁, rfl, R₁, q⟩
    | true =>
      refine go (q h₁ tk₁ R₁) (fun f h₂ tk₂ m₂ σ₂ R₂ q₂ => ?_) (fun _ _ x => x.elim)
      cases f with
      | next => obtain ⟨i', hi, hs', hP'⟩ := q₂; exact ⟨μ i', hi, i', σ₂, h₂, tk₂, rfl, rfl, R₂.sub hs', hP'⟩
      | cont => obtain ⟨i', hi, hs', hP'⟩ := q₂; exact ⟨μ i', hi, i', σ₂, h₂, tk₂, rfl, rfl, R₂.sub hs', hP'⟩
      | brk => exact q₂.elim
      | ret v => exact ⟨h₂, tk₂, m₂, σ₂, rfl, R₂, q₂⟩

/-- the base of a turn: all that is neither the call's own nor the frame -/
def baseOf (σ : ST) (L : Addr) (h : Heap) : Heap := hideST (fun a => if a = L then some (.list []) else σ a) h
theorem baseOf_get {σ : ST} {L : Addr} {h : Heap} {a : Addr} (hs : σ a = none) (hL : a ≠ L) : (baseOf σ L h).get? a = h.get? a := by
  unfold baseOf; rw [hideST_get]; simp [hL, hs]
theorem baseOf_none {σ : ST} {L : Addr} {h : Heap} {a : Addr} (hs : (σ a).isSome = true ∨ a = L) : (baseOf σ L h).get? a = none := by
  unfold baseOf; rw [hideST_get]
  by_cases hL : a = L
  · simp [hL]
  · simp [hL]; intro h0; rcases hs with h1 | h1
    · rw [h0] at h1; cases h1
    · exact absurd h1 hL
theorem baseOf_some {σ : ST} {L : Addr} {h : Heap} {a : Addr} {o : Obj} (e : (baseOf σ L h).get? a = some o) : h.get? a = some o ∧ σ a = none ∧ a ≠ L := by
  by_cases hL : a = L
  · rw [baseOf_none (.inr hL)] at e; cases e
  · cases hs : σ a with
    | some x => rw [baseOf_none (.inl (by rw [hs]; rfl))] at e; cases e
    | none => rw [baseOf_get hs hL] at e; exact ⟨e, rfl, hL⟩
theorem Rel.toBase {h : Heap} (R : Rel g L m σ h) : Rel (baseOf σ L h) L m σ h :=
  ⟨let ⟨mc, F, k⟩ := R.fr; ⟨mc, ⟨F.ns, fun b o e => (baseOf_some e).1, baseOf_none (.inr rfl)⟩, k⟩, fun a o e => ⟨(R.own a o e).1, (R.own a o e).2.1, baseOf_none (.inl (by rw [e]; rfl))⟩⟩
theorem Rel.in_base {h : Heap} (R : Rel g L m σ h) : ∀ b o, g.get? b = some o → (baseOf σ L h).get? b = some o := fun b o e => by
  obtain ⟨mc, F, k⟩ := R.fr
  rw [baseOf_get]
  · exact F.keep b o e
  · cases hs : σ b with
    | none => rfl
    | some x => rw [(R.own b x hs).2.2] at e; cases e
  · intro hb; rw [hb, F.low] at e; cases e
theorem Rel.base {g' : Heap} {h : Heap} (R : Rel g' L m σ h) (hg : ∀ b o, g.get? b = some o → g'.get? b = some o) : Rel g L m σ h := by
  obtain ⟨⟨mc, F, k⟩, own⟩ := R
  have none_of : ∀ b, g'.get? b = none → g.get? b = none := fun b e => by
    cases hb : g.get? b with
    | none => rfl
    | some o => rw [hg _ _ hb] at e; cases e
  exact ⟨⟨mc, ⟨F.ns, fun b o e => F.keep _ _ (hg _ _ e), none_of _ F.low⟩, k⟩, fun a o e => ⟨(own a o e).1, (own a o e).2.1, none_of _ (own a o e).2.2⟩⟩

/-- an iterator at I -/
structure Iter (C : Cx) (A : Around) (I : Addr) (n : Nat) (item : Nat → V) (St : Nat → Heap → Prop) (sc : ST → Prop) : Prop where
  alive : ∀ i h, St i h → ∃ o, h.get? I = some o
  frame : ∀ i h h', St i h → (∀ o, h.get? I = some o → h'.get? I = some o) → St i h'
  item : ∀ i g L m σ h tk (Q : Option Value → Shared → Prop) (E : Value → Shared → Prop), i < n → St i h → Rel g L m σ h → sc σ →
    (∀ v h' tk', er v = item i → St (i + 1) h' → (∀ b o, b ≠ I → h.get? b = some o → h'.get? b = some o) → Q (some v) (shared C h' tk')) → wpAny (model C.prog C.w) A (pyNext (.ref I)) Q E (shared C h tk)
  done : ∀ g L m σ h tk (Q : Option Value → Shared → Prop) (E : Value → Shared → Prop), St n h → Rel g L m σ h → sc σ →
    (∀ h' tk', (∀ b o, b ≠ I → h.get? b = some o → h'.get? b = some o) → Q none (shared C h' tk')) → wpAny (model C.prog C.w) A (pyNext (.ref I)) Q E (shared C h tk)

theorem Rel.next {h h' : Heap} {I : Addr} (R : Rel g L m σ h) (hI : σ I = none) (hL : I ≠ L) (hg : g.get? I = none) (hk : ∀ b o, b ≠ I → h.get? b = some o → h'.get? b = some o) : Rel g L m σ h' := by
  obtain ⟨⟨mc, F, k⟩, own⟩ := R
  refine ⟨⟨mc, ⟨F.ns.at' fun o e => hk _ o (Ne.symm hL) e, fun b o e => hk b o (fun q => by rw [q, hg] at e; cases e) (F.keep b o e), F.low⟩, k⟩, fun a o e => ⟨(own a o e).1.at fun ob q => hk a ob (fun q' => by rw [q', hI] at e; cases e) q, (own a o e).2⟩⟩

abbrev ForInv (C : Cx) (g : Heap) (L : Addr) {ι : Type} (loc : Nat → ι → LM) (P : Nat → ι → ST → Prop) (n : Nat) (St : Nat → Heap → Prop) (I : Addr) (k : Nat) (s' : Shared) : Prop :=
  ∃ i j σ' h' tk', k = n + 1 - i ∧ i ≤ n ∧ s' = shared C h' tk' ∧ Rel g L (loc i j) σ' h' ∧ St i h' ∧ σ' I = none ∧ P i j σ'
theorem X_ForIterN {ι : Type} {x : Str} {xp pos : Pos} {iter : Expr} {body rest : List Stmt} {Q : Flow → LM → ST → Prop} (O : EnvOk env L) (G : Glob C g) (loc : Nat → ι → LM) (P : Nat → Nat → ι → ST → Prop) (item : Nat → V) (sc : ST → Prop) (ok : Nat → Prop)
    (hx : env.kindOf x = some .local) (hsP : ∀ n i j σ', P n i j σ' → sc σ')
    (h : ∀ hh tk, Rel g L m σ hh → wpAny (model C.prog C.w) A (eval iter env) (fun xv s₁ => wpAny (model C.prog C.w) A (pyIter xv) (fun it s₂ =>
      ∃ n I St h₂ tk₂ m₂ σ₂ j₀, ok n ∧ it = .ref I ∧ s₂ = shared C h₂ tk₂ ∧ Rel g L m₂ σ₂ h₂ ∧ Iter C A I n item St sc ∧ St 0 h₂ ∧ σ₂ I = none ∧ I ≠ L ∧ g.get? I = none ∧ Sub (loc 0 j₀) m₂ ∧ P n 0 j₀ σ₂) E s₁) E (shared C hh tk))
    (turn : ∀ n i j σ' g', ok n → i < n → P n i j σ' → Glob C g' →
      X C A g' L NoE ((x, item i) :: loc i j) σ' body env (TurnEnd (fun m₂ σ₂ => ∃ j', Sub (loc (i + 1) j') m₂ ∧ P n (i + 1) j' σ₂) Q))
    (done : ∀ n j σ', ok n → P n n j σ' → X C A g L E (loc n j) σ' rest env Q)
    (ht : ∀ I v, letOwnedTupleGo (.Name x xp) (.ref I) v = pure ()) (hs : ∀ x, foldedSetIterable iter env x = pure x) :
    X C A g L E m σ (.For (.Name x xp) iter body [] pos :: rest) env Q :=
  X_step fun hh tk R => by
    refine wpAny_For (wpAny_mono (h hh tk R) (fun xv s₁ h₁ => wpAny_mono h₁ (fun it s₂ h₂ => ?_) fun _ _ x => x) fun _ _ x => x) hs
    obtain ⟨n, I, St, h₂, tk₂, m₂, σ₂, j₀, hok, rfl, rfl, R₂, IT, hst, hσI, hIL, hgI, hsub, hP₀⟩ := h₂
    refine codeAny_forLoop (ForInv C g L loc (P n) n St I) ?_ (n + 1)
      ⟨0, j₀, σ₂, h₂, tk₂, rfl, Nat.zero_le _, rfl, R₂.sub hsub, hst, hσI, hP₀⟩ (ht I)
    rintro _ _ ⟨i, j, σ', h', tk', rfl, hin, rfl, R', hst', hσ', hP⟩
    by_cases hlt : i < n
    · refine IT.item i g L _ σ' h' tk' _ _ hlt hst' R' (hsP _ _ _ _ hP) fun v h₃ tk₃ hv hst₃ hk₃ => ?_
      have R₃ := R'.next hσ' hIL hgI hk₃
      have R₃' := R₃.toBase
      have G' : Glob C (baseOf σ' L h₃) := G.keeps R₃.in_base
      obtain ⟨oI, hoI⟩ := IT.alive _ _ hst₃
      have hgI' : (baseOf σ' L h₃).get? I = some oI := by rw [baseOf_get hσ' hIL]; exact hoI
      have hb := turn n i j σ' (baseOf σ' L h₃) hok hlt hP G'
      refine wpAny_assign_Name (go (W_storeName (C := C) (A := A) (E := NoE) (Q := fun _ m₄ σ₄ => m₄ = (x, item i) :: loc i j ∧ σ₄ = σ') O ⟨by rw [hv], rfl⟩ hx h₃ tk₃ R₃') (fun _ h₄ tk₄ m₄ σ₄ R₄ ⟨em, es⟩ => ?_) fun _ _ x => x.elim)
      subst em es
      refine go (hb h₄ tk₄ R₄) (fun f h₅ tk₅ m₅ σ₅ R₅ q => ?_) (fun _ _ x => x.elim)
      have keepI : h₅.get? I = some oI := let ⟨_, F, _⟩ := R₅.fr; F.keep _ _ hgI'
      have hst₅ : St (i + 1) h₅ := IT.frame _ _ _ hst₃ fun o e => by rw [hoI] at e; cases e; exact keepI
      have hσ₅ : σ₅ I = none := by
        cases e : σ₅ I with
        | none => rfl
        | some o => have := (R₅.own _ _ e).2.2; rw [hgI'] at this; cases this
      have R₆ : Rel g L m₅ σ₅ h₅ := R₅.base R₃.in_base
      have fin : (∃ j', Sub (loc (i + 1) j') m₅ ∧ P n (i + 1) j' σ₅) → ∃ k, k < n + 1 - i ∧ ForInv C g L loc (P n) n St I k (shared C h₅ tk₅) := fun ⟨j', hs', hP'⟩ => ⟨n + 1 - (i + 1), Nat.sub_succ_lt_self _ _ (Nat.lt_succ_of_lt hlt), i + 1, j', σ₅, h₅, tk₅, rfl, hlt, rfl, R₆.sub hs', hst₅, hσ₅, hP'⟩
      cases f with
      | next => exact fin q
      | cont => exact fin q
      | brk => exact q.elim
      | ret v => exact ⟨h₅, tk₅, m₅, σ₅, rfl, R₆, q⟩
    · have hi : i = n := Nat.le_antisymm hin (Nat.not_lt.mp hlt)
      subst hi
      refine IT.done g L _ σ' h' tk' _ _ hst' R' (hsP _ _ _ _ hP) fun h₃ tk₃ hk₃ => ?_
      exact wpAny_execs_nil ⟨h₃, tk₃, _, σ', rfl, R'.next hσ' hIL hgI hk₃, done _ j σ' hok hP⟩

/-! ranges -/
theorem iter_range {I : Addr} {a c : Int} {n : Nat} (hh : A.handled = none) :
    Iter C A I n (fun i => .int (a + i * c)) (fun i h => IsRangeIter h I (a + (i : Nat) * c) ((n : Int) - (i : Nat)) c) (fun _ => True) where
  alive := fun _ _ h => ⟨_, h⟩
  frame := fun _ _ _ st hk => hk _ st
  item := fun i g L m σ h tk Q E hi st R _ hQ => by
    refine wpAny_pyNext_range_item st (by omega) fun h' hit' hs' => ?_
    refine hQ _ h' _ rfl ?_ fun b o hb e => hs'.extBut b o hb e
    have e1 : a + ((i + 1 : Nat) : Int) * c = a + (i : Int) * c + c := by push_cast; rw [Int.add_mul, Int.one_mul, Int.add_assoc]
    have e2 : (n : Int) - ((i + 1 : Nat) : Int) = (n : Int) - (i : Int) - 1 := by push_cast; omega
    rw [e1, e2]; exact hit'
  done := fun g L m σ h tk Q E st R _ hQ => wpAny_pyNext_range_end hh st (by omega) fun h' he' => hQ h' tk fun b o hb e => he' b o hb e

theorem iter_list {I l : Addr} {vs : List V} (hh : A.handled = none) (hne : I ≠ l) :
    Iter C A I vs.length (fun i => vs.getD i .none) (fun i h => h.IsListIter I l i) (fun σ => σ l = some (.list vs)) where
  alive := fun _ _ ⟨o, ho, _⟩ => ⟨o, ho⟩
  frame := fun _ _ _ st hk => st.at fun o e => hk o e
  item := fun i g L m σ h tk Q E hi st R hl hQ => by
    obtain ⟨cvs, n, e, hx⟩ := (R.own _ _ hl).1
    have hsz : cvs.size = vs.length := by rw [← hx]; simp
    have hi' : i < cvs.size := by omega
    refine wpAny_pyNext_list_item (x := cvs[i]) st (PySem.IsL.isList (n := n) e) (by simp [hi']) fun h' hit' hs' => ?_
    refine hQ _ h' _ ?_ hit' fun b o hb e => hs'.extBut b o hb e
    simp [← hx, hi']
  done := fun g L m σ h tk Q E st R hl hQ => by
    obtain ⟨cvs, n, e, hx⟩ := (R.own _ _ hl).1
    have hsz : cvs.size = vs.length := by rw [← hx]; simp
    exact wpAny_pyNext_list_end hh st (PySem.IsL.isList (n := n) e) (by simp [hsz]) fun h' he' => hQ h' tk fun b o hb e => he' b o hb e

/-- a range's bounds from its arguments -/
inductive RangeIs : List V → Int → Int → Nat → Prop
  | one {b : Int} (hb : b ≤ 2 ^ 60) (hb0 : -(2 ^ 60) ≤ b) : RangeIs [.int b] 0 1 b.toNat
  | two {a b : Int} (ha : 0 ≤ a) (ha' : a ≤ 2 ^ 60) (hb : b ≤ 2 ^ 60) (hb0 : -(2 ^ 60) ≤ b) : RangeIs [.int a, .int b] a 1 (b - a).toNat
  | down {a : Int} (ha : -1 ≤ a) (ha' : a ≤ 2 ^ 60) : RangeIs [.int a, .int (-1), .int (-1)] a (-1) (a + 1).toNat

theorem size_down {a : Int} (ha : -1 ≤ a) : Builtin.Range.rangeSize a (-1) (-1) = ((a + 1).toNat : Int) := by
  unfold Builtin.Range.rangeSize
  have h1 : ¬ ((-1 : Int) > 0) := by decide
  simp only [h1, if_false, Int.neg_neg, Int.ediv_one]
  split <;> omega
theorem small_down {a : Int} (ha : -1 ≤ a) (ha' : a ≤ 2 ^ 60) : Builtin.Range.small a (-1) (-1) = true := by
  unfold Builtin.Range.small
  rw [size_down ha]
  simp only [Builtin.Range.rangeFitsLong, Bool.and_eq_true, Bool.or_eq_true, decide_eq_true_eq, beq_iff_eq]
  have h1 : ¬ ((-1 : Int) > 0) := by decide
  simp only [h1, if_false]
  have h2 : ((a + 1).toNat : Int) = a + 1 := by omega
  rw [h2]
  refine ⟨⟨⟨⟨?_, ?_⟩, ?_⟩, ?_⟩, ?_⟩ <;> first | omega | decide | (right; decide)

theorem W_range {us : List Value} {lo step : Int} {n : Nat} (hr : RangeIs (us.map er) lo step n) {hh : Heap} {tk : Nat} (Q : Value → Shared → Prop)
    (h : ∀ h₂ tk₂, h₂.get? (hh.objs.size + 1) = some { cls := .type "range_iterator", data := .fields #[rawInt lo, rawInt n, rawInt step] } → (∀ b o, hh.get? b = some o → h₂.get? b = some o) → Q (.ref (hh.objs.size + 1)) (shared C h₂ tk₂)) :
    wpAny (model C.prog C.w) A (PySem.call (.type "range") us []) (fun xv s₁ => wpAny (model C.prog C.w) A (pyIter xv) Q E s₁) E (shared C hh tk) := by
  generalize hu : us.map er = vs at hr
  have fin : ∀ (o : Obj) (a b c : Int) (t u v : Tok) (tk' : Nat), IsRange (hh.push o) hh.objs.size a b c t u v → Builtin.Range.small a b c = true → a = lo → c = step → Builtin.Range.rangeSize a b c = (n : Int) →
      wpAny (model C.prog C.w) A (pyIter (.ref hh.objs.size)) Q E (shared C (hh.push o) tk') := by
    intro o a b c t u v tk' hir hsm ea ec hz
    refine wpAny_pyIter_range hir hsm ?_
    rw [hz, ea, ec]
    have hsz : (hh.push o).objs.size = hh.objs.size + 1 := Heap.size_push ..
    have hg := Heap.get?_push_size (hh.push o) (o := { cls := .type "range_iterator", data := .fields #[rawInt lo, rawInt n, rawInt step] }) rfl
    rw [hsz] at hg
    have q := h _ tk' hg (fun b ob e => Heap.get?_push_of_some _ (Heap.get?_push_of_some _ e))
    rw [← hsz] at q
    exact q
  cases hr with
  | one hb hb0 =>
    obtain ⟨v, rfl, e⟩ := one_er hu
    obtain ⟨t, rfl⟩ := er_int e
    exact call_range_1 (fin _ _ _ _ _ _ _ _ (IsRange.new ..) (small_one (by decide) (by decide) (by omega) (by omega)) rfl rfl (by rw [rangeSize_one]; split <;> omega))
  | two ha ha' hb hb0 =>
    obtain ⟨v, u, rfl, e, e'⟩ := two_er hu
    obtain ⟨t, rfl⟩ := er_int e
    obtain ⟨t', rfl⟩ := er_int e'
    exact call_range_2 (fin _ _ _ _ _ _ _ _ (IsRange.new ..) (small_one (by omega) (by omega) (by omega) (by omega)) rfl rfl (by rw [rangeSize_one]; split <;> omega))
  | down ha ha' =>
    obtain ⟨v, u, z, rfl, e, e', e''⟩ := three_er hu
    obtain ⟨t, rfl⟩ := er_int e
    obtain ⟨t', rfl⟩ := er_int e'
    obtain ⟨t'', rfl⟩ := er_int e''
    exact call_range_3 (by decide) (fin _ _ _ _ _ _ _ _ (IsRange.new ..) (small_down ha ha') rfl rfl (size_down ha)) (Or.inl (PyProof.noPylong_small (by decide)))

theorem X_ForRangeO {ι : Type} {x : Str} {xp p rpos pos : Pos} {e : Expr} {args : List Expr} {body rest : List Stmt} {Q : Flow → LM → ST → Prop} (O : EnvOk env L) (G : Glob C g) (hh0 : A.handled = none)
    (lo step : Int) (ok : Nat → Prop) (loc : Nat → ι → LM) (P : Nat → Nat → ι → ST → Prop)
    (h : WS C A g L E m σ rpos (e :: args) env (fun us m₁ σ₁ => ∃ n, ok n ∧ RangeIs us lo step n ∧ ∃ j₀, Sub (loc 0 j₀) m₁ ∧ P n 0 j₀ σ₁))
    (turn : ∀ n i j σ' g', ok n → i < n → P n i j σ' → Glob C g' →
      X C A g' L NoE ((x, .int (lo + i * step)) :: loc i j) σ' body env (TurnEnd (fun m₂ σ₂ => ∃ j', Sub (loc (i + 1) j') m₂ ∧ P n (i + 1) j' σ₂) Q))
    (done : ∀ n j σ', ok n → P n n j σ' → X C A g L E (loc n j) σ' rest env Q)
    (hx : env.kindOf x = some .local)
    (he : backTo rpos (starEach (e :: args) env) = (false, eval e env) :: backTo rpos (starEach args env)) (hp : (backTo rpos (starEach args env)).any (·.1) = false)
    (hk : env.kindOf "range" = some .globalImplicit)
    (ht : ∀ I v, letOwnedTupleGo (.Name x xp) (.ref I) v = pure ()) (hs : ∀ v, foldedSetIterable (.Call (.Name "range" p) (e :: args) [] rpos) env v = pure v) :
    X C A g L E m σ (.For (.Name x xp) (.Call (.Name "range" p) (e :: args) [] rpos) body [] pos :: rest) env Q := by
  refine X_ForIterN O G loc P (fun i => .int (lo + i * step)) (fun _ => True) ok hx (fun _ _ _ _ _ => trivial) (fun hh tk R => ?_) turn done ht hs
  refine wpAny_Call_NameR (go (W_builtin (C := C) (A := A) (E := E) (Q := fun v m' σ' => v = .type "range" ∧ m' = m ∧ σ' = σ) O G (by decide) (by decide +kernel) ⟨rfl, rfl, rfl⟩ hk (by decide) (by decide) hh tk R) (fun v h₁ tk₁ m₁ σ₁ R₁ ⟨ev, em, es⟩ => ?_) fun _ _ x => x)
  subst ev em es
  rw [he]
  refine PySem.callWith_type (by show (false || (backTo rpos (starEach args env)).any (·.1)) = false; rw [hp]; rfl) (Calls.evalArgs_plain (go (W_spl he h h₁ tk₁ R₁) (fun us h₂ tk₂ m₂ σ₂ R₂ ⟨n, hok, hr, j₀, hsub, hP⟩ => ?_) fun _ _ x => x))
  refine W_range hr _ fun h₃ tk₃ hI hk₃ => ?_
  have R₃ := R₂.grow hk₃
  have hσ : σ₂ (h₂.objs.size + 1) = none := by
    cases q : σ₂ (h₂.objs.size + 1) with
    | none => rfl
    | some o => exact absurd (R₂.own _ _ q).1.lt (Nat.not_lt.mpr (Nat.le_succ _))
  have hg : g.get? (h₂.objs.size + 1) = none := by
    cases q : g.get? (h₂.objs.size + 1) with
    | none => rfl
    | some o => obtain ⟨mc, F, _⟩ := R₂.fr; exact absurd (Heap.lt_size (F.keep _ _ q)) (Nat.not_lt.mpr (Nat.le_succ _))
  refine ⟨n, h₂.objs.size + 1, _, h₃, tk₃, m₂, σ₂, j₀, hok, rfl, rfl, R₃, iter_range (a := lo) (c := step) hh0, ?_, hσ, ?_, hg, hsub, hP⟩
  · show IsRangeIter h₃ _ (lo + ((0 : Nat) : Int) * step) ((n : Int) - ((0 : Nat) : Int)) step
    have e1 : lo + ((0 : Nat) : Int) * step = lo := by simp
    have e2 : (n : Int) - ((0 : Nat) : Int) = n := by simp
    rw [e1, e2]; exact hI
  · exact Nat.ne_of_gt (Nat.lt_succ_of_lt R₂.ltL)

theorem X_ForRange {ι : Type} {x : Str} {xp p rpos pos : Pos} {e : Expr} {args : List Expr} {body rest : List Stmt} {Q : Flow → LM → ST → Prop} (O : EnvOk env L) (G : Glob C g) (hh0 : A.handled = none)
    (lo step : Int) (n : Nat) (loc : Nat → ι → LM) (P : Nat → ι → ST → Prop)
    (h : WS C A g L E m σ rpos (e :: args) env (fun us m₁ σ₁ => RangeIs us lo step n ∧ ∃ j₀, Sub (loc 0 j₀) m₁ ∧ P 0 j₀ σ₁))
    (turn : ∀ i j σ' g', i < n → P i j σ' → Glob C g' →
      X C A g' L NoE ((x, .int (lo + i * step)) :: loc i j) σ' body env (TurnEnd (fun m₂ σ₂ => ∃ j', Sub (loc (i + 1) j') m₂ ∧ P (i + 1) j' σ₂) Q))
    (done : ∀ j σ', P n j σ' → X C A g L E (loc n j) σ' rest env Q)
    (hx : env.kindOf x = some .local)
    (he : backTo rpos (starEach (e :: args) env) = (false, eval e env) :: backTo rpos (starEach args env)) (hp : (backTo rpos (starEach args env)).any (·.1) = false)
    (hk : env.kindOf "range" = some .globalImplicit)
    (ht : ∀ I v, letOwnedTupleGo (.Name x xp) (.ref I) v = pure ()) (hs : ∀ v, foldedSetIterable (.Call (.Name "range" p) (e :: args) [] rpos) env v = pure v) :
    X C A g L E m σ (.For (.Name x xp) (.Call (.Name "range" p) (e :: args) [] rpos) body [] pos :: rest) env Q :=
  X_ForRangeO O G hh0 lo step (· = n) loc (fun _ => P) (W_mono h fun _ _ _ q => ⟨n, rfl, q⟩) (fun _ i j σ' g' e hi hP G' => turn i j σ' g' (e ▸ hi) hP G') (fun n' j σ' e hP => by subst e; exact done j σ' hP) hx he hp hk ht hs
theorem X_ForList {ι : Type} {x : Str} {xp pos : Pos} {e : Expr} {body rest : List Stmt} {Q : Flow → LM → ST → Prop} (O : EnvOk env L) (G : Glob C g) (hh0 : A.handled = none)
    (l : Addr) (vs : List V) (loc : Nat → ι → LM) (P : Nat → ι → ST → Prop)
    (h : WE C A g L E m σ (eval e env) (fun v m₁ σ₁ => v = .ref l ∧ ∃ j₀, Sub (loc 0 j₀) m₁ ∧ P 0 j₀ σ₁)) (hl : ∀ i j σ', P i j σ' → σ' l = some (.list vs))
    (turn : ∀ i j σ' g', i < vs.length → P i j σ' → Glob C g' →
      X C A g' L NoE ((x, vs.getD i .none) :: loc i j) σ' body env (TurnEnd (fun m₂ σ₂ => ∃ j', Sub (loc (i + 1) j') m₂ ∧ P (i + 1) j' σ₂) Q))
    (done : ∀ j σ', P vs.length j σ' → X C A g L E (loc vs.length j) σ' rest env Q)
    (hx : env.kindOf x = some .local)
    (ht : ∀ I v, letOwnedTupleGo (.Name x xp) (.ref I) v = pure ()) (hs : ∀ v, foldedSetIterable e env v = pure v) :
    X C A g L E m σ (.For (.Name x xp) e body [] pos :: rest) env Q := by
  refine X_ForIterN O G loc (fun _ => P) (fun i => vs.getD i .none) (fun σ => σ l = some (.list vs)) (· = vs.length) hx (fun _ => hl) (fun hh tk R => ?_) (fun _ i j σ' g' e hi hP G' => turn i j σ' g' (e ▸ hi) hP G') (fun n' j σ' e hP => by subst e; exact done j σ' hP) ht hs
  refine go (h hh tk R) (fun v h₁ tk₁ m₁ σ₁ R₁ ⟨ev, j₀, hsub, hP⟩ => ?_) fun _ _ x => x
  cases er_ref ev
  obtain ⟨cvs, n, e, hcx⟩ := (R₁.own _ _ (hl _ _ _ hP)).1
  have hlt : l < h₁.objs.size := Heap.lt_size e
  refine wpAny_pyIter_list (PySem.IsL.isList (n := n) e) ?_
  refine ⟨_, h₁.objs.size, _, _, tk₁, m₁, σ₁, j₀, rfl, rfl, rfl, R₁.push _, iter_list hh0 (Nat.ne_of_gt hlt), ⟨_, Heap.get?_push_size _ rfl, rfl, rfl⟩, R₁.size_fresh, Nat.ne_of_gt R₁.ltL, R₁.g_fresh, hsub, hP⟩

end

/-! ## Base6 -/

section
variable {C : Cx} {A : Around} {g : Heap} {L : Addr} {E : Value → Shared → Prop} {m : LM} {σ : ST} {env : Env}

/-! several names at once -/
theorem assignTwo {x y : Str} {p q tp : Pos} {n : Nat} {t : Addr} {v u : V} {Q : Unit → LM → ST → Prop} (O : EnvOk env L) (hh0 : A.handled = none) (ht : σ t = some (.tup [v, u])) (hx : env.kindOf x = some .local) (hy : env.kindOf y = some .local)
    (h : Q () ((y, u) :: (x, v) :: m) σ) : W C A g L E m σ (assign (.Tuple [.Name x p, .Name y q] n tp) env (.ref t)) Q := fun hh tk R => by
  obtain ⟨cvs, k, e, hcx⟩ := (R.own _ _ ht).1
  have hsz : cvs.size = 2 := by have := congrArg List.length hcx; simpa using this
  obtain ⟨cv, cu, hl, ev, eu⟩ := two_er hcx
  have hT : (shared C hh tk).heap.IsTuple t cvs := ⟨_, e, rfl, k, rfl⟩
  refine wpAny_assign_Tuple hh0 hT (by rw [hsz]; rfl) rfl fun h' hext => ?_
  have R' : Rel g L m σ h' := R.grow fun b o q => hext b o (Nat.ne_of_lt (Heap.lt_size q)) q
  rw [hl]
  show wpAny _ A (do holding [cu] (assign (.Name x p) env cv); do holding [] (assign (.Name y q) env cu); pure ()) _ _ _
  refine wpAny_bind (wpAny_holding (wpAny_assign_Name (go (W_storeName (C := C) (A := A) (E := E) (Q := fun _ m₁ σ₁ => m₁ = (x, v) :: m ∧ σ₁ = σ) O ⟨by rw [ev], rfl⟩ hx h' tk R') (fun _ h₁ tk₁ m₁ σ₁ R₁ ⟨em, es⟩ => ?_) fun _ _ x => x)))
  subst em es
  refine wpAny_bind (wpAny_holding (wpAny_assign_Name (go (W_storeName (C := C) (A := A) (E := E) (Q := fun _ m₂ σ₂ => m₂ = (y, u) :: (x, v) :: m ∧ σ₂ = σ₁) O ⟨by rw [eu], rfl⟩ hy h₁ tk₁ R₁) (fun _ h₂ tk₂ m₂ σ₂ R₂ ⟨em₂, es₂⟩ => ?_) fun _ _ x => x)))
  subst em₂ es₂
  exact wpAny_pure ⟨h₂, tk₂, _, _, rfl, R₂, h⟩

theorem X_Assign2 {x y : Str} {p q tp pos : Pos} {n : Nat} {value : Expr} {rest : List Stmt} {Q : Flow → LM → ST → Prop} (O : EnvOk env L) (hh0 : A.handled = none)
    (h : WE C A g L E m σ (eval value env) (fun w m₁ σ₁ => ∃ t v u, w = .ref t ∧ σ₁ t = some (.tup [v, u]) ∧ X C A g L E ((y, u) :: (x, v) :: m₁) σ₁ rest env Q))
    (hx : env.kindOf x = some .local) (hy : env.kindOf y = some .local)
    (hs : swapsWithSole [.Tuple [.Name x p, .Name y q] n tp] value pos.line env = pure false)
    (hw : swappedStores [.Tuple [.Name x p, .Name y q] n tp] value env = pure none) :
    X C A g L E m σ (.Assign [.Tuple [.Name x p, .Name y q] n tp] value pos :: rest) env Q :=
  X_step fun hh tk R => Assign_Tuple (go (h hh tk R) (fun w h₁ tk₁ m₁ σ₁ R₁ ⟨t, v, u, ew, ht, q⟩ => by
    cases er_ref ew
    exact assignTwo (Q := fun _ => Then C A g L E rest env Q .next) O hh0 ht hx hy q h₁ tk₁ R₁) fun _ _ x => x) hs hw

theorem unpackN {t : Addr} {vs : List V} {n : Nat} {Q : List V → LM → ST → Prop} (hh0 : A.handled = none) (ht : σ t = some (.tup vs)) (hn : n = vs.length) (h : Q vs m σ) :
    W C A g L E m σ (unpackItems (.ref t) n none) (fun items => Q (items.map er)) := fun hh tk R => by
  obtain ⟨cvs, k, e, hcx⟩ := (R.own _ _ ht).1
  have hsz : cvs.size = vs.length := by rw [← hcx]; simp
  have hT : (shared C hh tk).heap.IsTuple t cvs := ⟨_, e, rfl, k, rfl⟩
  rw [hn, ← hsz]
  refine wpAny_unpackItems_tuple hh0 hT fun h' hext => ⟨h', tk, m, σ, rfl, R.grow fun b o q => hext b o (Nat.ne_of_lt (Heap.lt_size q)) q, ?_⟩
  show Q (cvs.toList.map er) m σ
  rw [hcx]; exact h

theorem X_Swap2 {x y : Str} {p q tp pos : Pos} {n : Nat} {value : Expr} {rest : List Stmt} {Q : Flow → LM → ST → Prop} (O : EnvOk env L) (hh0 : A.handled = none)
    (h : WE C A g L E m σ (eval value env) (fun w m₁ σ₁ => ∃ t v u, w = .ref t ∧ σ₁ t = some (.tup [v, u]) ∧ X C A g L E ((x, v) :: (y, u) :: m₁) σ₁ rest env Q))
    (hx : env.kindOf x = some .local) (hy : env.kindOf y = some .local)
    (hs : swapsWithSole [.Tuple [.Name x p, .Name y q] n tp] value pos.line env = pure false)
    (hw : swappedStores [.Tuple [.Name x p, .Name y q] n tp] value env = pure (some [x, y])) :
    X C A g L E m σ (.Assign [.Tuple [.Name x p, .Name y q] n tp] value pos :: rest) env Q :=
  X_step fun hh tk R => Assign_Tuple_swapped (names := [x, y]) (go (h hh tk R) (fun w h₁ tk₁ m₁ σ₁ R₁ ⟨t, v, u, ew, ht, qq⟩ => by
    cases er_ref ew
    refine go (unpackN (C := C) (A := A) (E := E) (Q := fun items m₂ σ₂ => items = [v, u] ∧ m₂ = m₁ ∧ σ₂ = σ₁) hh0 ht (n := 2) rfl ⟨rfl, rfl, rfl⟩ h₁ tk₁ R₁) (fun items h₂ tk₂ m₂ σ₂ R₂ ⟨ei, em, es⟩ => ?_) fun _ _ x => x
    subst em es
    obtain ⟨cv, cu, rfl, ev, eu⟩ := two_er ei
    show wpAny _ A (do holding [cv] (bindName env y cu); do holding [] (bindName env x cv); pure ()) _ _ _
    refine wpAny_bind (wpAny_holding (wpAny_bindName (go (W_storeName (C := C) (A := A) (E := E) (Q := fun _ m₄ σ₄ => m₄ = (y, u) :: m₂ ∧ σ₄ = σ₂) O ⟨by rw [eu], rfl⟩ hy h₂ tk₂ R₂) (fun _ h₃ tk₃ m₃ σ₃ R₃ ⟨em, es⟩ => ?_) fun _ _ x => x)))
    subst em es
    refine wpAny_bind (wpAny_holding (wpAny_bindName (go (W_storeName (C := C) (A := A) (E := E) (Q := fun _ m₄ σ₄ => m₄ = (x, v) :: (y, u) :: m₂ ∧ σ₄ = σ₃) O ⟨by rw [ev], rfl⟩ hx h₃ tk₃ R₃) (fun _ h₄ tk₄ m₄ σ₄ R₄ ⟨em, es⟩ => ?_) fun _ _ x => x)))
    subst em es
    exact wpAny_pure ⟨h₄, tk₄, _, _, rfl, R₄, qq⟩) fun _ _ x => x) hs hw

theorem X_Swap3 {x y z : Str} {p q r tp pos : Pos} {n : Nat} {value : Expr} {rest : List Stmt} {Q : Flow → LM → ST → Prop} (O : EnvOk env L) (hh0 : A.handled = none)
    (h : WE C A g L E m σ (eval value env) (fun w m₁ σ₁ => ∃ t v u s, w = .ref t ∧ σ₁ t = some (.tup [v, u, s]) ∧ X C A g L E ((x, v) :: (y, u) :: (z, s) :: m₁) σ₁ rest env Q))
    (hx : env.kindOf x = some .local) (hy : env.kindOf y = some .local) (hz : env.kindOf z = some .local)
    (hs : swapsWithSole [.Tuple [.Name x p, .Name y q, .Name z r] n tp] value pos.line env = pure false)
    (hw : swappedStores [.Tuple [.Name x p, .Name y q, .Name z r] n tp] value env = pure (some [x, y, z])) :
    X C A g L E m σ (.Assign [.Tuple [.Name x p, .Name y q, .Name z r] n tp] value pos :: rest) env Q :=
  X_step fun hh tk R => Assign_Tuple_swapped (names := [x, y, z]) (go (h hh tk R) (fun w h₁ tk₁ m₁ σ₁ R₁ ⟨t, v, u, s, ew, ht, qq⟩ => by
    cases er_ref ew
    refine go (unpackN (C := C) (A := A) (E := E) (Q := fun items m₂ σ₂ => items = [v, u, s] ∧ m₂ = m₁ ∧ σ₂ = σ₁) hh0 ht (n := 3) rfl ⟨rfl, rfl, rfl⟩ h₁ tk₁ R₁) (fun items h₂ tk₂ m₂ σ₂ R₂ ⟨ei, em, es⟩ => ?_) fun _ _ x => x
    subst em es
    obtain ⟨cv, cu, cs, rfl, ev, eu, es⟩ := three_er ei
    show wpAny _ A (do holding [cu, cv] (bindName env z cs); do holding [cv] (bindName env y cu); do holding [] (bindName env x cv); pure ()) _ _ _
    refine wpAny_bind (wpAny_holding (wpAny_bindName (go (W_storeName (C := C) (A := A) (E := E) (Q := fun _ m₄ σ₄ => m₄ = (z, s) :: m₂ ∧ σ₄ = σ₂) O ⟨by rw [es], rfl⟩ hz h₂ tk₂ R₂) (fun _ h₃ tk₃ m₃ σ₃ R₃ ⟨em, es⟩ => ?_) fun _ _ x => x)))
    subst em es
    refine wpAny_bind (wpAny_holding (wpAny_bindName (go (W_storeName (C := C) (A := A) (E := E) (Q := fun _ m₄ σ₄ => m₄ = (y, u) :: (z, s) :: m₂ ∧ σ₄ = σ₃) O ⟨by rw [eu], rfl⟩ hy h₃ tk₃ R₃) (fun _ h₄ tk₄ m₄ σ₄ R₄ ⟨em, es⟩ => ?_) fun _ _ x => x)))
    subst em es
    refine wpAny_bind (wpAny_holding (wpAny_bindName (go (W_storeName (C := C) (A := A) (E := E) (Q := fun _ m₅ σ₅ => m₅ = (x, v) :: (y, u) :: (z, s) :: m₂ ∧ σ₅ = σ₄) O ⟨by rw [ev], rfl⟩ hx h₄ tk₄ R₄) (fun _ h₅ tk₅ m₅ σ₅ R₅ ⟨em, es⟩ => ?_) fun _ _ x => x)))
    subst em es
    exact wpAny_pure ⟨h₅, tk₅, _, _, rfl, R₅, qq⟩) fun _ _ x => x) hs hw

/-! the shapes that the rules leave -/
theorem if_bool {b : Bool} {P R : Prop} (h1 : b = true → P) (h2 : b = false → R) : if b then P else R := by
  cases b
  · exact h2 rfl
  · exact h1 rfl
theorem ex_arith {op : Operator} {x y : Int} {P : V → Prop} (ok : arithOk op x y) (h : P (.int (arithVal op x y))) : ∃ x' y', V.int x = .int x' ∧ V.int y = .int y' ∧ arithOk op x' y' ∧ P (.int (arithVal op x' y')) := ⟨x, y, rfl, rfl, ok, h⟩
theorem ex_item {l : Addr} {k : Int} {ns : List Int} {P : V → Prop} (hl : σ l = some (LI ns)) (h0 : 0 ≤ k) (hk : k < ns.length) (hz : ns.length ≤ 1000) (h : P (.int (ns.getD k.toNat 0))) : ∃ x, ItemIs σ (.ref l) (.int k) x ∧ P x :=
  ⟨_, .list hl h0 (by omega) (by
    have : k.toNat < ns.length := by omega
    rw [List.getElem?_map]
    simp [List.getD, this]), h⟩
theorem ex_last {l : Addr} {ns : List Int} {P : V → Prop} (hl : σ l = some (LI ns)) (hk : 0 < ns.length) (hz : ns.length ≤ 1000) (h : P (.int (ns.getD (ns.length - 1) 0))) : ∃ x, ItemIs σ (.ref l) (.int (-1)) x ∧ P x :=
  ⟨_, .last hl (by simp; omega) (by
    have : ns.length - 1 < ns.length := by omega
    rw [List.getElem?_map]
    simp [List.getD, this]), h⟩
theorem ex_tup {t : Addr} {k : Int} {vs : List V} {x : V} {P : V → Prop} (ht : σ t = some (.tup vs)) (h0 : 0 ≤ k) (hk : k < 2 ^ 63) (hx : vs[k.toNat]? = some x) (h : P x) : ∃ x, ItemIs σ (.ref t) (.int k) x ∧ P x := ⟨x, .tup ht h0 hk hx, h⟩

/-! the rules once more, what they leave under a name -/
def ArithK (op : Operator) (a b : V) (K : V → Prop) : Prop := ∃ x y, a = .int x ∧ b = .int y ∧ arithOk op x y ∧ K (.int (arithVal op x y))
theorem arithK {op : Operator} {x y : Int} {K : V → Prop} (ok : arithOk op x y) (h : K (.int (arithVal op x y))) : ArithK op (.int x) (.int y) K := ⟨x, y, rfl, rfl, ok, h⟩
def CmpK (op : CmpOp) (a b : V) (K : Bool → Prop) : Prop := ∃ z, CmpIs op a b z ∧ K z
theorem cmpK {op : CmpOp} {x y : Int} {K : Bool → Prop} (ok : cmpOk op = true) (h : K (cmpVal op x y)) : CmpK op (.int x) (.int y) K := ⟨_, .int ok, h⟩
theorem cmpK_eqB {x y : Bool} {K : Bool → Prop} (h : K (x == y)) : CmpK .Eq (.bool x) (.bool y) K := ⟨_, .eqB, h⟩
theorem cmpK_neB {x y : Bool} {K : Bool → Prop} (h : K (x != y)) : CmpK .NotEq (.bool x) (.bool y) K := ⟨_, .neB, h⟩
theorem cmpK_isN {v : V} {K : Bool → Prop} (h : K v.isNone) : CmpK .Is v .none K := ⟨_, .isN, h⟩
theorem if_dec {c : Prop} [Decidable c] {P R : Prop} (h1 : c → P) (h2 : ¬ c → R) : if decide c = true then P else R := by
  by_cases hc : c
  · rw [if_pos (by simpa using hc)]; exact h1 hc
  · rw [if_neg (by simpa using hc)]; exact h2 hc
theorem arithK_add {x y : Int} {K : V → Prop} (h : K (.int (x + y))) : ArithK .Add (.int x) (.int y) K := arithK trivial h
theorem arithK_sub {x y : Int} {K : V → Prop} (h : K (.int (x - y))) : ArithK .Sub (.int x) (.int y) K := arithK trivial h
theorem arithK_mul {x y : Int} {K : V → Prop} (hb : x.natAbs < 2 ^ 64 ∨ y.natAbs < 2 ^ 64) (h : K (.int (x * y))) : ArithK .Mult (.int x) (.int y) K := arithK hb h
theorem arithK_div {x y : Int} {K : V → Prop} (h0 : 0 < y) (hb : y.natAbs < 2 ^ 64) (h : K (.int (x / y))) : ArithK .FloorDiv (.int x) (.int y) K :=
  arithK ⟨by omega, hb⟩ (by show K (.int (x.fdiv y)); rw [Int.fdiv_eq_ediv_of_nonneg _ (Int.le_of_lt h0)]; exact h)
theorem arithK_fdiv {x y : Int} {K : V → Prop} (h0 : y ≠ 0) (hb : y.natAbs < 2 ^ 64) (h : K (.int (x.fdiv y))) : ArithK .FloorDiv (.int x) (.int y) K := arithK ⟨h0, hb⟩ h
theorem arithK_mod {x y : Int} {K : V → Prop} (h0 : 0 < y) (h : K (.int (x % y))) : ArithK .Mod (.int x) (.int y) K :=
  arithK (show y ≠ 0 by omega) (by show K (.int (x.fmod y)); rw [Int.fmod_eq_emod_of_nonneg _ (Int.le_of_lt h0)]; exact h)
theorem arithK_shl1 {w : Nat} {K : V → Prop} (hw : w ≤ 1000000) (h : K (.int (2 ^ w))) : ArithK .LShift (.int 1) (.int (w : Int)) K :=
  arithK ⟨by omega, by omega, by decide⟩ (by show K (.int (1 * 2 ^ ((w : Int).toNat))); simpa using h)
theorem arithK_shl {x : Int} {w : Nat} {K : V → Prop} (hw : w ≤ 1000000) (hx : x.natAbs < 2 ^ 64) (h : K (.int (x * 2 ^ w))) : ArithK .LShift (.int x) (.int (w : Int)) K :=
  arithK ⟨by omega, by omega, hx⟩ (by show K (.int (x * 2 ^ ((w : Int).toNat))); simpa using h)
theorem arithK_shr {x : Int} {w : Nat} {K : V → Prop} (h : K (.int (x / 2 ^ w))) : ArithK .RShift (.int x) (.int (w : Int)) K :=
  arithK (show (0 : Int) ≤ w by omega) (by
    show K (.int (x.fdiv (2 ^ ((w : Int).toNat))))
    rw [Int.fdiv_eq_ediv_of_nonneg _ (Int.le_of_lt (Int.pow_pos (by decide)))]
    simpa using h)
theorem arithK_pow2 {w : Nat} {K : V → Prop} (hw : w ≤ 1000000) (h : K (.int (2 ^ w))) : ArithK .Pow (.int 2) (.int (w : Int)) K :=
  arithK ⟨by omega, by omega, by decide⟩ (by show K (.int (2 ^ ((w : Int).toNat))); simpa using h)
theorem bitAnd_mask {x : Int} {w : Nat} (hx : 0 ≤ x) : Builtin.bitAnd x (2 ^ w - 1) = x % 2 ^ w := by
  have hp : (0 : Int) < 2 ^ w := Int.pow_pos (by decide)
  obtain ⟨n, rfl⟩ := Int.eq_ofNat_of_zero_le hx
  have e : ((2 : Int) ^ w - 1) = ((2 ^ w - 1 : Nat) : Int) := by
    have h1 : 1 ≤ 2 ^ w := Nat.one_le_two_pow
    have h2 : ((2 ^ w : Nat) : Int) = (2 : Int) ^ w := by push_cast; rfl
    omega
  rw [e]
  unfold Builtin.bitAnd
  have h1 : decide (0 ≤ ((n : Nat) : Int)) = true := by simp
  have h2 : decide (0 ≤ ((2 ^ w - 1 : Nat) : Int)) = true := by simp
  rw [h1, h2]
  show (((((n : Nat) : Int).toNat &&& ((2 ^ w - 1 : Nat) : Int).toNat : Nat)) : Int) = _
  rw [Int.toNat_natCast, Int.toNat_natCast, Nat.and_two_pow_sub_one_eq_mod]
  push_cast; rfl
theorem arithK_mask {x : Int} {w : Nat} {K : V → Prop} (hx : 0 ≤ x) (h : K (.int (x % 2 ^ w))) : ArithK .BitAnd (.int x) (.int (2 ^ w - 1)) K :=
  arithK trivial (by show K (.int (Builtin.bitAnd x (2 ^ w - 1))); rw [bitAnd_mask hx]; exact h)
theorem cmpK_lt {x y : Int} {K : Bool → Prop} (h : K (decide (x < y))) : CmpK .Lt (.int x) (.int y) K := cmpK rfl h
theorem cmpK_le {x y : Int} {K : Bool → Prop} (h : K (decide (x ≤ y))) : CmpK .LtE (.int x) (.int y) K := cmpK rfl h
theorem cmpK_gt {x y : Int} {K : Bool → Prop} (h : K (decide (y < x))) : CmpK .Gt (.int x) (.int y) K := cmpK rfl h
theorem cmpK_ge {x y : Int} {K : Bool → Prop} (h : K (decide (y ≤ x))) : CmpK .GtE (.int x) (.int y) K := cmpK rfl h
theorem cmpK_eq {x y : Int} {K : Bool → Prop} (h : K (decide (x = y))) : CmpK .Eq (.int x) (.int y) K := cmpK rfl (by
  have : (x == y) = decide (x = y) := by by_cases h : x = y <;> simp [h]
  show K (x == y); rw [this]; exact h)
theorem cmpK_ne {x y : Int} {K : Bool → Prop} (h : K (decide (x ≠ y))) : CmpK .NotEq (.int x) (.int y) K := cmpK rfl (by
  have : (x != y) = decide (x ≠ y) := by by_cases h : x = y <;> simp [h]
  show K (x != y); rw [this]; exact h)
def ItemK (σ : ST) (o i : V) (K : V → Prop) : Prop := ∃ x, ItemIs σ o i x ∧ K x
theorem itemK {l : Addr} {k : Int} {ns : List Int} {K : V → Prop} (hl : σ l = some (LI ns)) (h0 : 0 ≤ k) (hk : k < ns.length) (hz : ns.length ≤ 1000) (h : K (.int (ns.getD k.toNat 0))) : ItemK σ (.ref l) (.int k) K := ex_item hl h0 hk hz h
theorem itemK_last {l : Addr} {ns : List Int} {K : V → Prop} (hl : σ l = some (LI ns)) (hk : 0 < ns.length) (hz : ns.length ≤ 1000) (h : K (.int (ns.getD (ns.length - 1) 0))) : ItemK σ (.ref l) (.int (-1)) K := ex_last hl hk hz h
theorem itemK_tup {t : Addr} {k : Int} {vs : List V} {x : V} {K : V → Prop} (ht : σ t = some (.tup vs)) (h0 : 0 ≤ k) (hk : k < 2 ^ 63) (hx : vs[k.toNat]? = some x) (h : K x) : ItemK σ (.ref t) (.int k) K := ex_tup ht h0 hk hx h
theorem itemK_any {l : Addr} {k : Int} {vs : List V} {x : V} {K : V → Prop} (hl : σ l = some (.list vs)) (h0 : 0 ≤ k) (hk : k < 2 ^ 63) (hx : vs[k.toNat]? = some x) (h : K x) : ItemK σ (.ref l) (.int k) K := ⟨x, .list hl h0 hk hx, h⟩
def BoolK (v : V) (K : Bool → Prop) : Prop := ∃ b, v = .bool b ∧ K b
theorem boolK {b : Bool} {K : Bool → Prop} (h : K b) : BoolK (.bool b) K := ⟨b, rfl, h⟩
def IntK (v : V) (K : Int → Prop) : Prop := ∃ b, v = .int b ∧ K b
theorem intK {b : Int} {K : Int → Prop} (h : K b) : IntK (.int b) K := ⟨b, rfl, h⟩
/-- a new object -/
def NewK (σ : ST) (o : MO) (n : Nat) (K : V → ST → Prop) : Prop := n ≤ 1000 ∧ ∀ a, σ a = none → K (.ref a) (upd σ a o)
theorem newK {o : MO} {n : Nat} {K : V → ST → Prop} (hn : n ≤ 1000) (h : ∀ a, σ a = none → K (.ref a) (upd σ a o)) : NewK σ o n K := ⟨hn, h⟩
def CutK (σ : ST) (o : V) (lo hi : Option Int) (K : V → ST → Prop) : Prop := ∃ l vs ws, o = .ref l ∧ σ l = some (.list vs) ∧ vs.length ≤ 1000 ∧ CutIs lo hi vs ws ∧ ∀ n, σ n = none → K (.ref n) (upd σ n (.list ws))
theorem cutK {l : Addr} {lo hi : Option Int} {vs ws : List V} {K : V → ST → Prop} (hl : σ l = some (.list vs)) (hz : vs.length ≤ 1000) (c : CutIs lo hi vs ws) (h : ∀ n, σ n = none → K (.ref n) (upd σ n (.list ws))) : CutK σ (.ref l) lo hi K := ⟨l, vs, ws, rfl, hl, hz, c, h⟩
theorem cutK_upto {l : Addr} {k : Int} {ns : List Int} {K : V → ST → Prop} (hl : σ l = some (LI ns)) (hz : ns.length ≤ 1000) (h0 : 0 ≤ k) (hk : k ≤ ns.length) (h : ∀ n, σ n = none → K (.ref n) (upd σ n (LI (ns.take k.toNat)))) : CutK σ (.ref l) none (some k) K :=
  ⟨l, _, _, rfl, hl, by simpa using hz, .upto h0 (by simpa using hk), fun n hn => by rw [← List.map_take]; exact h n hn⟩
theorem cutK_run {l : Addr} {a b : Int} {ns : List Int} {K : V → ST → Prop} (hl : σ l = some (LI ns)) (hz : ns.length ≤ 1000) (h0 : 0 ≤ a) (hab : a ≤ b) (hb : b ≤ ns.length) (h : ∀ n, σ n = none → K (.ref n) (upd σ n (LI ((ns.drop a.toNat).take (b.toNat - a.toNat))))) : CutK σ (.ref l) (some a) (some b) K :=
  ⟨l, _, _, rfl, hl, by simpa using hz, .run h0 hab (by simpa using hb), fun n hn => by rw [← List.map_drop, ← List.map_take]; exact h n hn⟩
theorem cutK_all {l : Addr} {vs : List V} {K : V → ST → Prop} (hl : σ l = some (.list vs)) (hz : vs.length ≤ 1000) (h : ∀ n, σ n = none → K (.ref n) (upd σ n (.list vs))) : CutK σ (.ref l) none none K := ⟨l, vs, vs, rfl, hl, hz, .all, h⟩
def LenK (σ : ST) (us : List V) (K : V → Prop) : Prop := ∃ a vs, us = [.ref a] ∧ σ a = some (.list vs) ∧ vs.length ≤ 1000 ∧ K (.int vs.length)
theorem lenK {a : Addr} {ns : List Int} {K : V → Prop} (hl : σ a = some (LI ns)) (hz : ns.length ≤ 1000) (h : K (.int ns.length)) : LenK σ [.ref a] K := ⟨a, _, rfl, hl, by simpa using hz, by simpa using h⟩
def AbsK (us : List V) (K : V → Prop) : Prop := ∃ a : Int, us = [.int a] ∧ K (.int (if a < 0 then -a else a))
theorem absK {a : Int} {K : V → Prop} (h : K (.int (if a < 0 then -a else a))) : AbsK [.int a] K := ⟨a, rfl, h⟩
def MinK (us : List V) (K : V → Prop) : Prop := ∃ a b : Int, us = [.int a, .int b] ∧ K (.int (if b < a then b else a))
theorem minK {a b : Int} {K : V → Prop} (h : K (.int (if b < a then b else a))) : MinK [.int a, .int b] K := ⟨a, b, rfl, h⟩
def MulK (σ : ST) (a b : V) (K : V → ST → Prop) : Prop := ∃ t x k, a = .ref t ∧ b = .int k ∧ σ t = some (.list [x]) ∧ 0 ≤ k ∧ k ≤ 1000 ∧ ∀ n, σ n = none → K (.ref n) (upd σ n (.list (List.replicate k.toNat x)))
theorem mulK {t : Addr} {x k : Int} {K : V → ST → Prop} (hl : σ t = some (.list [.int x])) (h0 : 0 ≤ k) (hk : k ≤ 1000) (h : ∀ n, σ n = none → K (.ref n) (upd σ n (LI (List.replicate k.toNat x)))) : MulK σ (.ref t) (.int k) K :=
  ⟨t, _, k, rfl, rfl, hl, h0, hk, fun n hn => by have := h n hn; rw [LI, List.map_replicate] at this; exact this⟩
def CatK (σ : ST) (a b : V) (K : V → ST → Prop) : Prop := ∃ t u xs ys, a = .ref t ∧ b = .ref u ∧ σ t = some (.list xs) ∧ σ u = some (.list ys) ∧ xs.length + ys.length ≤ 1000 ∧ ∀ n, σ n = none → K (.ref n) (upd σ n (.list (xs ++ ys)))
theorem catK {t u : Addr} {xs ys : List Int} {K : V → ST → Prop} (hl : σ t = some (LI xs)) (hr : σ u = some (LI ys)) (hz : xs.length + ys.length ≤ 1000) (h : ∀ n, σ n = none → K (.ref n) (upd σ n (LI (xs ++ ys)))) : CatK σ (.ref t) (.ref u) K :=
  ⟨t, u, _, _, rfl, rfl, hl, hr, by simpa using hz, fun n hn => by rw [← List.map_append]; exact h n hn⟩
def SetK (σ : ST) (o i v : V) (K : ST → Prop) : Prop := ∃ a k vs, o = .ref a ∧ i = .int k ∧ σ a = some (.list vs) ∧ 0 ≤ k ∧ k < vs.length ∧ vs.length ≤ 1000 ∧ K (upd σ a (.list (vs.set k.toNat v)))
theorem setK {a : Addr} {k x : Int} {ns : List Int} {K : ST → Prop} (hl : σ a = some (LI ns)) (h0 : 0 ≤ k) (hk : k < ns.length) (hz : ns.length ≤ 1000) (h : K (upd σ a (LI (ns.set k.toNat x)))) : SetK σ (.ref a) (.int k) (.int x) K :=
  ⟨a, k, _, rfl, rfl, hl, h0, by simpa using hk, by simpa using hz, by rw [LI, List.map_set] at h; exact h⟩
def AppK (σ : ST) (a : Addr) (v : V) (K : ST → Prop) : Prop := ∃ vs, σ a = some (.list vs) ∧ vs.length ≤ 1000 ∧ K (upd σ a (.list (vs ++ [v])))
theorem appK {a : Addr} {x : Int} {ns : List Int} {K : ST → Prop} (hl : σ a = some (LI ns)) (hz : ns.length ≤ 1000) (h : K (upd σ a (LI (ns ++ [x])))) : AppK σ a (.int x) K :=
  ⟨_, hl, by simpa using hz, by rw [LI, List.map_append] at h; exact h⟩
def TwoK (σ : ST) (w : V) (K : V → V → Prop) : Prop := ∃ t v u, w = .ref t ∧ σ t = some (.tup [v, u]) ∧ K v u
theorem twoK {t : Addr} {v u : V} {K : V → V → Prop} (ht : σ t = some (.tup [v, u])) (h : K v u) : TwoK σ (.ref t) K := ⟨t, v, u, rfl, ht, h⟩
def ThreeK (σ : ST) (w : V) (K : V → V → V → Prop) : Prop := ∃ t v u s, w = .ref t ∧ σ t = some (.tup [v, u, s]) ∧ K v u s
theorem threeK {t : Addr} {v u s : V} {K : V → V → V → Prop} (ht : σ t = some (.tup [v, u, s])) (h : K v u s) : ThreeK σ (.ref t) K := ⟨t, v, u, s, rfl, ht, h⟩
def AugK (op : Operator) (a : Int) (v : V) (K : V → Prop) : Prop := ∃ b, v = .int b ∧ arithOk op a b ∧ K (.int (arithVal op a b))
theorem augK {op : Operator} {a b : Int} {K : V → Prop} (ok : arithOk op a b) (h : K (.int (arithVal op a b))) : AugK op a (.int b) K := ⟨b, rfl, ok, h⟩

theorem augK_add {x y : Int} {K : V → Prop} (h : K (.int (x + y))) : AugK .Add x (.int y) K := augK trivial h
theorem augK_sub {x y : Int} {K : V → Prop} (h : K (.int (x - y))) : AugK .Sub x (.int y) K := augK trivial h
theorem augK_mod {x y : Int} {K : V → Prop} (h0 : 0 < y) (h : K (.int (x % y))) : AugK .Mod x (.int y) K :=
  augK (show y ≠ 0 by omega) (by show K (.int (x.fmod y)); rw [Int.fmod_eq_emod_of_nonneg _ (Int.le_of_lt h0)]; exact h)
theorem augK_shr {x : Int} {w : Nat} {K : V → Prop} (h : K (.int (x / 2 ^ w))) : AugK .RShift x (.int (w : Int)) K :=
  augK (show (0 : Int) ≤ w by omega) (by
    show K (.int (x.fdiv (2 ^ ((w : Int).toNat))))
    rw [Int.fdiv_eq_ediv_of_nonneg _ (Int.le_of_lt (Int.pow_pos (by decide)))]
    simpa using h)
theorem E_arith {l r : Expr} {op : Operator} {pos : Pos} {Q : V → LM → ST → Prop} (h : WE C A g L E m σ (eval l env) (fun a m₁ σ₁ => WE C A g L E m₁ σ₁ (eval r env) (fun b m₂ σ₂ => ArithK op a b (fun v => Q v m₂ σ₂)))) :
    WE C A g L E m σ (eval (.BinOp l op r pos) env) Q := WE_arith h
theorem E_cmp {l r : Expr} {op : CmpOp} {pos : Pos} {Q : V → LM → ST → Prop} (hm : behindInMarks op r = false)
    (h : WE C A g L E m σ (eval l env) (fun a m₁ σ₁ => WE C A g L E m₁ σ₁ (eval r env) (fun b m₂ σ₂ => CmpK op a b (fun z => Q (.bool z) m₂ σ₂)))) :
    WE C A g L E m σ (eval (.Compare l [op] [r] pos) env) Q := WE_cmp h hm
theorem T_cmp {l r : Expr} {op : CmpOp} {pos : Pos} {Q : Bool → LM → ST → Prop} (hm : behindInMarks op r = false)
    (h : WE C A g L E m σ (eval l env) (fun a m₁ σ₁ => WE C A g L E m₁ σ₁ (eval r env) (fun b m₂ σ₂ => CmpK op a b (fun z => Q z m₂ σ₂)))) :
    WT C A g L E m σ (.Compare l [op] [r] pos) env Q := WT_cmp h hm
theorem T_value {e : Expr} {Q : Bool → LM → ST → Prop} (he : ∀ whole, isTrue e env whole = (do let v ← whole; standAt e.pos; holding [v] (truthy v)))
    (h : WE C A g L E m σ (eval e env) (fun v m₁ σ₁ => BoolK v (fun b => Q b m₁ σ₁))) : WT C A g L E m σ e env Q := WT_value h he
theorem E_and2 {x y : Expr} {pos : Pos} {Q : V → LM → ST → Prop}
    (h : WE C A g L E m σ (eval x env) (fun v m₁ σ₁ => BoolK v (fun b => if b then WE C A g L E m₁ σ₁ (eval y env) Q else Q (.bool false) m₁ σ₁))) : WE C A g L E m σ (eval (.BoolOp .And [x, y] pos) env) Q := WE_and2 h
theorem E_not {x : Expr} {pos : Pos} {Q : V → LM → ST → Prop} (h : WE C A g L E m σ (eval x env) (fun v m₁ σ₁ => BoolK v (fun b => Q (.bool (!b)) m₁ σ₁))) : WE C A g L E m σ (eval (.UnaryOp .Not x pos) env) Q := WE_not h
theorem E_neg {x : Expr} {pos : Pos} {Q : V → LM → ST → Prop} (h : WE C A g L E m σ (eval x env) (fun v m₁ σ₁ => IntK v (fun b => Q (.int (-b)) m₁ σ₁))) : WE C A g L E m σ (eval (.UnaryOp .USub x pos) env) Q := WE_neg h
theorem E_item {value slice : Expr} {pos : Pos} {Q : V → LM → ST → Prop} (hs : ∀ o i, subscripted slice false o i = operate [o, i] (getItem o i))
    (h : WE C A g L E m σ (eval value env) (fun o m₁ σ₁ => WE C A g L E m₁ σ₁ (eval slice env) (fun i m₂ σ₂ => ItemK σ₂ o i (fun x => Q x m₂ σ₂)))) :
    WE C A g L E m σ (eval (.Subscript value slice pos) env) Q := WE_item h hs
theorem E_cut {value : Expr} {lower upper : Option Expr} {p pos : Pos} {Q : V → LM → ST → Prop} (ht : ∀ o r, letTemporaryGo value o r = pure ())
    (h : WE C A g L E m σ (eval value env) (fun o m₁ σ₁ => WP C A g L E m₁ σ₁ lower env (fun lo m₂ σ₂ => WP C A g L E m₂ σ₂ upper env (fun hi m₃ σ₃ => CutK σ₃ o lo hi (fun v σ₄ => Q v m₃ σ₄))))) :
    WE C A g L E m σ (eval (.Subscript value (.Slice lower upper none p) pos) env) Q := WE_cut h ht
theorem P_some {e : Expr} {Q : Option Int → LM → ST → Prop} (he : evalPart (some e) env = eval e env) (h : WE C A g L E m σ (eval e env) (fun v m₁ σ₁ => IntK v (fun i => Q (some i) m₁ σ₁))) : WP C A g L E m σ (some e) env Q := WP_some h he
theorem E_tuple {es : List Expr} {k : Nat} {pos : Pos} {Q : V → LM → ST → Prop} (h : WS C A g L E m σ pos es env (fun vs m₁ σ₁ => NewK σ₁ (.tup vs) vs.length (fun v σ₂ => Q v m₁ σ₂))) :
    WE C A g L E m σ (eval (.Tuple es k pos) env) Q := WE_Tuple h
theorem E_list {es : List Expr} {pos : Pos} {Q : V → LM → ST → Prop} (h : WS C A g L E m σ pos es env (fun vs m₁ σ₁ => NewK σ₁ (.list vs) vs.length (fun v σ₂ => Q v m₁ σ₂))) :
    WE C A g L E m σ (eval (.List es pos) env) Q := WE_List h
theorem E_mulList {l r : Expr} {pos : Pos} {Q : V → LM → ST → Prop} (h : WE C A g L E m σ (eval l env) (fun a m₁ σ₁ => WE C A g L E m₁ σ₁ (eval r env) (fun b m₂ σ₂ => MulK σ₂ a b (fun v σ₃ => Q v m₂ σ₃)))) :
    WE C A g L E m σ (eval (.BinOp l .Mult r pos) env) Q := WE_mulList h
theorem E_addList {l r : Expr} {pos : Pos} {Q : V → LM → ST → Prop} (h : WE C A g L E m σ (eval l env) (fun a m₁ σ₁ => WE C A g L E m₁ σ₁ (eval r env) (fun b m₂ σ₂ => CatK σ₂ a b (fun v σ₃ => Q v m₂ σ₃)))) :
    WE C A g L E m σ (eval (.BinOp l .Add r pos) env) Q := WE_addList h
theorem E_len {p pos : Pos} {e : Expr} {Q : V → LM → ST → Prop} (O : EnvOk env L) (G : Glob C g) (he : backTo pos (starEach [e] env) = (false, eval e env) :: backTo pos (starEach [] env)) (hk : env.kindOf "len" = some .globalImplicit)
    (h : WS C A g L E m σ pos [e] env (fun us m₁ σ₁ => LenK σ₁ us (fun v => Q v m₁ σ₁))) : WE C A g L E m σ (eval (.Call (.Name "len" p) [e] [] pos) env) Q := WE_len O G h he hk
theorem E_abs {p pos : Pos} {e : Expr} {Q : V → LM → ST → Prop} (O : EnvOk env L) (G : Glob C g) (he : backTo pos (starEach [e] env) = (false, eval e env) :: backTo pos (starEach [] env)) (hk : env.kindOf "abs" = some .globalImplicit)
    (h : WS C A g L E m σ pos [e] env (fun us m₁ σ₁ => AbsK us (fun v => Q v m₁ σ₁))) : WE C A g L E m σ (eval (.Call (.Name "abs" p) [e] [] pos) env) Q := WE_abs O G h he hk
theorem E_min {p pos : Pos} {e e' : Expr} {Q : V → LM → ST → Prop} (O : EnvOk env L) (G : Glob C g) (hh0 : A.handled = none) (he : backTo pos (starEach [e, e'] env) = (false, eval e env) :: backTo pos (starEach [e'] env)) (hp : (backTo pos (starEach [e'] env)).any (·.1) = false) (hk : env.kindOf "min" = some .globalImplicit)
    (h : WS C A g L E m σ pos [e, e'] env (fun us m₁ σ₁ => MinK us (fun v => Q v m₁ σ₁))) : WE C A g L E m σ (eval (.Call (.Name "min" p) [e, e'] [] pos) env) Q := WE_min O G hh0 h he hp hk
theorem X_aug {x : Str} {op : Operator} {p pos : Pos} {value : Expr} {rest : List Stmt} {a : Int} {Q : Flow → LM → ST → Prop} (O : EnvOk env L)
    (hv : m.lookup x = some (.int a)) (hi : inpOk op = true) (hl : env.kindOf x = some .local)
    (h : WE C A g L E m σ (eval value env) (fun v m₁ σ₁ => AugK op a v (fun r => X C A g L E ((x, r) :: m₁) σ₁ rest env Q))) :
    X C A g L E m σ (.AugAssign (.Name x p) op value pos :: rest) env Q := X_Aug O hv hi h hl
theorem X_setitem {o i value : Expr} {p pos : Pos} {rest : List Stmt} {Q : Flow → LM → ST → Prop} (hs : swapsWith value (some (.Subscript o i p)) pos.line env = pure false)
    (h : WE C A g L E m σ (eval value env) (fun v m₁ σ₁ => WE C A g L E m₁ σ₁ (eval o env) (fun ov m₂ σ₂ => WE C A g L E m₂ σ₂ (eval i env) (fun iv m₃ σ₃ => SetK σ₃ ov iv v (fun σ₄ => X C A g L E m₃ σ₄ rest env Q))))) :
    X C A g L E m σ (.Assign [.Subscript o i p] value pos :: rest) env Q := X_SetItem h hs
theorem X_assign2 {x y : Str} {p q tp pos : Pos} {n : Nat} {value : Expr} {rest : List Stmt} {Q : Flow → LM → ST → Prop} (O : EnvOk env L) (hh0 : A.handled = none)
    (hx : env.kindOf x = some .local) (hy : env.kindOf y = some .local)
    (hs : swapsWithSole [.Tuple [.Name x p, .Name y q] n tp] value pos.line env = pure false)
    (hw : swappedStores [.Tuple [.Name x p, .Name y q] n tp] value env = pure none)
    (h : WE C A g L E m σ (eval value env) (fun w m₁ σ₁ => TwoK σ₁ w (fun v u => X C A g L E ((y, u) :: (x, v) :: m₁) σ₁ rest env Q))) :
    X C A g L E m σ (.Assign [.Tuple [.Name x p, .Name y q] n tp] value pos :: rest) env Q := X_Assign2 O hh0 h hx hy hs hw
theorem X_swap2 {x y : Str} {p q tp pos : Pos} {n : Nat} {value : Expr} {rest : List Stmt} {Q : Flow → LM → ST → Prop} (O : EnvOk env L) (hh0 : A.handled = none)
    (hx : env.kindOf x = some .local) (hy : env.kindOf y = some .local)
    (hs : swapsWithSole [.Tuple [.Name x p, .Name y q] n tp] value pos.line env = pure false)
    (hw : swappedStores [.Tuple [.Name x p, .Name y q] n tp] value env = pure (some [x, y]))
    (h : WE C A g L E m σ (eval value env) (fun w m₁ σ₁ => TwoK σ₁ w (fun v u => X C A g L E ((x, v) :: (y, u) :: m₁) σ₁ rest env Q))) :
    X C A g L E m σ (.Assign [.Tuple [.Name x p, .Name y q] n tp] value pos :: rest) env Q := X_Swap2 O hh0 h hx hy hs hw
theorem X_swap3 {x y z : Str} {p q r tp pos : Pos} {n : Nat} {value : Expr} {rest : List Stmt} {Q : Flow → LM → ST → Prop} (O : EnvOk env L) (hh0 : A.handled = none)
    (hx : env.kindOf x = some .local) (hy : env.kindOf y = some .local) (hz : env.kindOf z = some .local)
    (hs : swapsWithSole [.Tuple [.Name x p, .Name y q, .Name z r] n tp] value pos.line env = pure false)
    (hw : swappedStores [.Tuple [.Name x p, .Name y q, .Name z r] n tp] value env = pure (some [x, y, z]))
    (h : WE C A g L E m σ (eval value env) (fun w m₁ σ₁ => ThreeK σ₁ w (fun v u s => X C A g L E ((x, v) :: (y, u) :: (z, s) :: m₁) σ₁ rest env Q))) :
    X C A g L E m σ (.Assign [.Tuple [.Name x p, .Name y q, .Name z r] n tp] value pos :: rest) env Q := X_Swap3 O hh0 h hx hy hz hs hw
theorem X_return {e : Expr} {pos : Pos} {rest : List Stmt} {Q : V → ST → Prop} (h : WE C A g L E m σ (eval e env) (fun v m₁ σ₁ => Q v σ₁)) :
    X C A g L E m σ (.Return (some e) pos :: rest) env (fun f _ σ' => Q (retV f) σ') := X_Return h
theorem X_appendI {x : Str} {p apos cpos epos : Pos} {elt : Expr} {rest : List Stmt} {a : Addr} {Q : Flow → LM → ST → Prop} (O : EnvOk env L) (hv : m.lookup x = some (.ref a)) (hsome : ∃ vs₀, σ a = some (.list vs₀))
    (hl : env.kindOf x = some .local) (hd : (x == ("__debug__" : Str)) = false)
    (hbase : attributeBase (.Name x p) "append" env (eval (.Name x p) env) = eval (.Name x p) env)
    (hfew : ((backTo cpos (starEach [elt] env)).all (fun x => !x.1) && (backToKw cpos (keywordEach [] env)).all (fun x => x.1.isSome)
      && decide (([elt] : List Expr).length + ([] : List Keyword).length + (if ([] : List Keyword).isEmpty then 0 else 1) < 30)) = true)
    (hline : (apos.endLine == cpos.line) = true)
    (htrees : backTo cpos (starEach [elt] env) = [(false, eval elt env)])
    (hi : interactive env = false) (hs : swapsWith (.Call (.Attribute (.Name x p) "append" apos) [elt] [] cpos) none epos.line env = pure false)
    (h : WE C A g L E m σ (eval elt env) (fun v m₁ σ₁ => AppK σ₁ a v (fun σ₂ => X C A g L E m₁ σ₂ rest env Q))) :
    X C A g L E m σ (.Expr (.Call (.Attribute (.Name x p) "append" apos) [elt] [] cpos) epos :: rest) env Q := X_append O hv hsome h hl hd hbase hfew hline htrees hi hs

/-! enumerate -/
abbrev EnumInv (C : Cx) (g : Heap) (L : Addr) {ι : Type} (loc : Nat → ι → LM) (P : Nat → ι → ST → Prop) (n : Nat) (e' it l : Addr) (k : Nat) (s' : Shared) : Prop :=
  ∃ i j σ' h' tk' old, k = n + 1 - i ∧ i ≤ n ∧ s' = shared C h' tk' ∧ Rel g L (loc i j) σ' h' ∧ IsEnum h' e' it ((i : Nat) : Int) old ∧ h'.IsListIter it l i ∧ σ' e' = none ∧ σ' it = none ∧ P i j σ'
theorem X_ForEnum {ι : Type} {x y : Str} {xp yp tp p rpos pos : Pos} {tn : Nat} {e : Expr} {body rest : List Stmt} {Q : Flow → LM → ST → Prop} (O : EnvOk env L) (G : Glob C g) (hh0 : A.handled = none)
    (l : Addr) (vs : List V) (loc : Nat → ι → LM) (P : Nat → ι → ST → Prop)
    (h : WS C A g L E m σ rpos [e] env (fun us m₁ σ₁ => us = [.ref l] ∧ ∃ j₀, Sub (loc 0 j₀) m₁ ∧ P 0 j₀ σ₁)) (hl : ∀ i j σ', P i j σ' → σ' l = some (.list vs))
    (turn : ∀ i j σ' g', i < vs.length → P i j σ' → Glob C g' →
      X C A g' L NoE ((y, vs.getD i .none) :: (x, .int i) :: loc i j) σ' body env (TurnEnd (fun m₂ σ₂ => ∃ j', Sub (loc (i + 1) j') m₂ ∧ P (i + 1) j' σ₂) Q))
    (done : ∀ j σ', P vs.length j σ' → X C A g L E (loc vs.length j) σ' rest env Q)
    (hx : env.kindOf x = some .local) (hy : env.kindOf y = some .local)
    (he : backTo rpos (starEach [e] env) = (false, eval e env) :: backTo rpos (starEach [] env)) (hk : env.kindOf "enumerate" = some .globalImplicit)
    (hs : ∀ v, foldedSetIterable (.Call (.Name "enumerate" p) [e] [] rpos) env v = pure v) :
    X C A g L E m σ (.For (.Tuple [.Name x xp, .Name y yp] tn tp) (.Call (.Name "enumerate" p) [e] [] rpos) body [] pos :: rest) env Q :=
  X_step fun hh tk R => by
    refine wpAny_For ?_ hs
    refine wpAny_Call_NameR (go (W_builtin (C := C) (A := A) (E := E) (Q := fun v m' σ' => v = .type "enumerate" ∧ m' = m ∧ σ' = σ) O G (by decide) (by decide +kernel) ⟨rfl, rfl, rfl⟩ hk (by decide) (by decide) hh tk R) (fun v h₁ tk₁ m₁ σ₁ R₁ ⟨ev, em, es⟩ => ?_) fun _ _ x => x)
    subst ev em es
    rw [he]
    refine PySem.callWith_type rfl (Calls.evalArgs_plain (go (W_spl he h h₁ tk₁ R₁) (fun us h₂ tk₂ m₂ σ₂ R₂ ⟨eu, j₀, hsub, hP⟩ => ?_) fun _ _ x => x))
    obtain ⟨cv, rfl, ec⟩ := one_er eu
    cases er_ref ec
    obtain ⟨cvs, n, el, hcx⟩ := (R₂.own _ _ (hl _ _ _ hP)).1
    have hlt : l < h₂.objs.size := Heap.lt_size el
    refine call_enumerate_list (PySem.IsL.isList (n := n) el) fun h₃ hE hIt hz₃ hk₃ => ?_
    refine wpAny_pyIter_enum hE ?_
    have R₃ := R₂.grow hk₃
    -- the two addresses
    have fresh : ∀ b, h₂.objs.size ≤ b → σ₂ b = none ∧ b ≠ L ∧ g.get? b = none := fun b hb => by
      refine ⟨?_, fun q => absurd R₂.ltL (by rw [← q]; exact Nat.not_lt.mpr hb), ?_⟩
      · cases q : σ₂ b with
        | none => rfl
        | some o => exact absurd (R₂.own _ _ q).1.lt (Nat.not_lt.mpr hb)
      · cases q : g.get? b with
        | none => rfl
        | some o => obtain ⟨mc, F, _⟩ := R₂.fr; exact absurd (Heap.lt_size (F.keep _ _ q)) (Nat.not_lt.mpr hb)
    obtain ⟨fi1, fi2, fi3⟩ := fresh h₂.objs.size (Nat.le_refl _)
    obtain ⟨fe1, fe2, fe3⟩ := fresh (h₂.objs.size + 1) (Nat.le_succ _)
    have hne : h₂.objs.size + 1 ≠ h₂.objs.size := Nat.succ_ne_self _
    have hil : l ≠ h₂.objs.size := Nat.ne_of_lt hlt
    replace hE : IsEnum h₃ (h₂.objs.size + 1) h₂.objs.size 0 .none := hE
    replace hIt : h₃.IsListIter h₂.objs.size l 0 := hIt
    change codeAny (model C.prog C.w) A (.forLoop _ (.ref (h₂.objs.size + 1)) body [] env) _ _
    generalize hIe : h₂.objs.size + 1 = e' at *
    generalize hIi : h₂.objs.size = it at *
    have hle : l ≠ e' := by rw [← hIe]; exact Nat.ne_of_lt (Nat.lt_succ_of_lt (hIi ▸ hlt))
    refine codeAny_forLoop_any (EnumInv C g L loc P vs.length e' it l) ?_ (vs.length + 1)
      ⟨0, j₀, σ₂, h₃, tk₂, .none, rfl, Nat.zero_le _, rfl, R₃.sub hsub, hE, hIt, fe1, fi1, hP⟩
    rintro _ _ ⟨i, j, σ', h', tk', old, rfl, hin, rfl, R', hE', hIt', hσe, hσi, hP⟩
    obtain ⟨cvs, n, el, hcx⟩ := (R'.own _ _ (hl _ _ _ hP)).1
    have hsz : cvs.size = vs.length := by rw [← hcx]; simp
    have hL : (shared C h' tk').heap.IsList l cvs := PySem.IsL.isList (n := n) el
    by_cases hlt : i < vs.length
    · have hi' : i < cvs.size := by omega
      refine wpAny_pyNext_enum_item hE' hIt' hL (x := cvs[i]) (by simp [hi']) hne fun h₄ hEo hIt₄ hT₄ hz₄ hk₄ => ?_
      refine wpAny_letOwnedTupleGo_enum hEo fun h₅ hE₅ hs₅ => ?_
      replace hk₄ : ∀ b o, b ≠ e' → b ≠ it → h'.get? b = some o → h₄.get? b = some o := hk₄
      replace hs₅ : Heap.SameBut e' h₄ h₅ := hs₅
      replace hT₄ : h₄.get? h'.objs.size = some { cls := .type "tuple", data := .seq #[.int i tk', cvs[i]] } := hT₄
      have heH : e' < h'.objs.size := Heap.lt_size hE'
      have R₅ : Rel g L (loc i j) σ' h₅ := by
        obtain ⟨⟨mc, F, k⟩, own⟩ := R'
        have up : ∀ b o, b ≠ e' → b ≠ it → h'.get? b = some o → h₅.get? b = some o := fun b o h1 h2 q => (hs₅.2 b h1).trans (hk₄ b o h1 h2 q)
        exact ⟨⟨mc, ⟨F.ns.at' fun o q => up _ o (Ne.symm fe2) (Ne.symm fi2) q, fun b o q => up b o (fun z => by rw [z, fe3] at q; cases q) (fun z => by rw [z, fi3] at q; cases q) (F.keep b o q), F.low⟩, k⟩,
          fun a o q => ⟨(own a o q).1.at fun ob z => up a ob (fun w => by rw [w, hσe] at q; cases q) (fun w => by rw [w, hσi] at q; cases q) z, (own a o q).2⟩⟩
      have hT₅ : HoldsO h₅ h'.objs.size (.tup [.int i, er cvs[i]]) := ⟨_, 0, (hs₅.2 _ (Nat.ne_of_gt heH)).trans hT₄, rfl⟩
      have R₅T : Rel g L (loc i j) (upd σ' h'.objs.size (.tup [.int i, er cvs[i]])) h₅ := R'.alloc' R₅ rfl hT₅
      have hitem : er cvs[i] = vs.getD i .none := by simp [← hcx, hi']
      have R₅B := R₅T.toBase
      have G' : Glob C (baseOf (upd σ' h'.objs.size (.tup [.int i, er cvs[i]])) L h₅) := G.keeps R₅T.in_base
      have hIt₅ : h₅.IsListIter it l (i + 1) := hIt₄.extBut hs₅.extBut (Ne.symm hne)
      obtain ⟨oi, hoi, _⟩ := id hIt₅
      have hoit : it < h'.objs.size := by obtain ⟨o, ho, _⟩ := hIt'; exact Heap.lt_size ho
      have ge : (baseOf (upd σ' h'.objs.size (.tup [.int i, er cvs[i]])) L h₅).get? e' = h₅.get? e' := baseOf_get (by rw [upd_ne (Nat.ne_of_lt heH)]; exact hσe) fe2
      have gi : (baseOf (upd σ' h'.objs.size (.tup [.int i, er cvs[i]])) L h₅).get? it = h₅.get? it := baseOf_get (by rw [upd_ne (Nat.ne_of_lt hoit)]; exact hσi) fi2
      refine go (assignTwo (C := C) (A := A) (E := NoE) (Q := fun _ m₆ σ₆ => m₆ = (y, vs.getD i .none) :: (x, .int i) :: loc i j ∧ σ₆ = upd σ' h'.objs.size (.tup [.int i, er cvs[i]])) O hh0 (upd_same _ _ _) hx hy ⟨by rw [hitem], rfl⟩ h₅ tk'.succ R₅B) (fun _ h₆ tk₆ m₆ σ₆ R₆ ⟨em, es⟩ => ?_) fun _ _ x => x.elim
      subst em es
      have hb := turn i j σ' _ hlt hP G'
      refine go (hb h₆ tk₆ (R₆.le (Le.upd (Le.refl _) R'.size_fresh))) (fun f h₇ tk₇ m₇ σ₇ R₇ q => ?_) (fun _ _ x => x.elim)
      obtain ⟨mc₇, F₇, _⟩ := R₇.fr
      have hE₇ : IsEnum h₇ e' it (((i + 1 : Nat) : Nat) : Int) cvs[i] := by
        have q1 : h₅.get? e' = _ := hE₅
        have q2 := F₇.keep _ _ (ge.trans q1)
        have q3 : (((i + 1 : Nat) : Nat) : Int) = (i : Int) + 1 := by push_cast; rfl
        rw [q3]; exact q2
      have hIt₇ : h₇.IsListIter it l (i + 1) := hIt₅.at fun o q => F₇.keep _ _ (gi.trans q)
      have none₇ : ∀ b o, (baseOf (upd σ' h'.objs.size (.tup [.int i, er cvs[i]])) L h₅).get? b = some o → σ₇ b = none := fun b o q => by
        cases z : σ₇ b with
        | none => rfl
        | some ob => have := (R₇.own _ _ z).2.2; rw [q] at this; cases this
      have R₈ : Rel g L m₇ σ₇ h₇ := R₇.base R₅T.in_base
      have hse : σ₇ e' = none := none₇ _ _ (ge.trans hE₅)
      have hsi : σ₇ it = none := none₇ _ _ (gi.trans hoi)
      have fin : (∃ j', Sub (loc (i + 1) j') m₇ ∧ P (i + 1) j' σ₇) → ∃ k, k < vs.length + 1 - i ∧ EnumInv C g L loc P vs.length e' it l k (shared C h₇ tk₇) := fun ⟨j', hs', hP'⟩ => ⟨vs.length + 1 - (i + 1), Nat.sub_succ_lt_self _ _ (Nat.lt_succ_of_lt hlt), i + 1, j', σ₇, h₇, tk₇, _, rfl, hlt, rfl, R₈.sub hs', hE₇, hIt₇, hse, hsi, hP'⟩
      cases f with
      | next => exact fin q
      | cont => exact fin q
      | brk => exact q.elim
      | ret v => exact ⟨h₇, tk₇, m₇, σ₇, rfl, R₈, q⟩
    · have hi : i = vs.length := Nat.le_antisymm hin (Nat.not_lt.mp hlt)
      subst hi
      refine wpAny_pyNext_enum_end hh0 hE' hIt' hL (by simp [hsz]) fun h₄ he₄ => ?_
      replace he₄ : Heap.ExtBut it h' h₄ := he₄
      exact wpAny_execs_nil ⟨h₄, tk', _, σ', rfl, R'.next hσi fi2 fi3 (fun b o hb q => he₄ b o hb q), done j σ' hP⟩

end

/-! ## Base7 -/

section
variable {C : Cx} {A : Around} {g : Heap} {L : Addr} {E : Value → Shared → Prop} {m : LM} {σ : ST} {env : Env}

theorem X_mono {ss : List Stmt} {Q Q' : Flow → LM → ST → Prop} (h : X C A g L E m σ ss env Q) (hq : ∀ f m σ, Q f m σ → Q' f m σ) : X C A g L E m σ ss env Q' := W_mono h hq

/-- an expression whose value is known, whatever its ways -/
theorem WE_is (v : V) {t : Sem Value} {Q : V → LM → ST → Prop} (h : WE C A g L E m σ t (fun x m' σ' => x = v ∧ m' = m ∧ σ' = σ)) (q : Q v m σ) : WE C A g L E m σ t Q :=
  WE_mono h fun x m' σ' ⟨e1, e2, e3⟩ => by subst e1 e2 e3; exact q

/-- an if whose ways meet -/
theorem X_IfJoin {test : Expr} {body orelse : List Stmt} {pos : Pos} {rest : List Stmt} {Q : Flow → LM → ST → Prop} (P : LM → ST → Prop)
    (h : WT C A g L E m σ test env (fun b m₁ σ₁ => if b then X C A g L E m₁ σ₁ body env (fun f m₂ σ₂ => f = .next ∧ P m₂ σ₂) else X C A g L E m₁ σ₁ orelse env (fun f m₂ σ₂ => f = .next ∧ P m₂ σ₂)))
    (hr : ∀ m₂ σ₂, P m₂ σ₂ → X C A g L E m₂ σ₂ rest env Q) : X C A g L E m σ (.If test body orelse pos :: rest) env Q :=
  X_If (W_mono h fun b m₁ σ₁ q => by
    cases b with
    | true => exact X_mono q fun f m₂ σ₂ ⟨e, p⟩ => by subst e; exact hr _ _ p
    | false => exact X_mono q fun f m₂ σ₂ ⟨e, p⟩ => by subst e; exact hr _ _ p)

def RetOnly (Q : Flow → LM → ST → Prop) : Flow → LM → ST → Prop
  | .ret v, m, σ => Q (.ret v) m σ
  | _, _, _ => False
theorem R_start {ss : List Stmt} {Q : Flow → LM → ST → Prop} (h : X C A g L E m σ ss env (RetOnly Q)) : X C A g L E m σ ss env Q :=
  X_mono h fun f m σ q => by cases f with
    | ret v => exact q
    | next => exact q.elim
    | brk => exact q.elim
    | cont => exact q.elim
theorem R_then {ss rest : List Stmt} {A' : Around} {g' : Heap} {L' : Addr} {E' : Value → Shared → Prop} {env' : Env} {Q : Flow → LM → ST → Prop} (h : X C A g L E m σ ss env (RetOnly Q)) : X C A g L E m σ ss env (RetOnly (Then C A' g' L' E' rest env' Q)) :=
  X_mono h fun f m σ q => by cases f with
    | ret v => exact q
    | next => exact q.elim
    | brk => exact q.elim
    | cont => exact q.elim
theorem R_turn {ss : List Stmt} {again : LM → ST → Prop} {Q : Flow → LM → ST → Prop} (h : X C A g L E m σ ss env (RetOnly Q)) : X C A g L E m σ ss env (RetOnly (TurnEnd again Q)) :=
  X_mono h fun f m σ q => by cases f with
    | ret v => exact q
    | next => exact q.elim
    | brk => exact q.elim
    | cont => exact q.elim
theorem R_end {e : Expr} {pos : Pos} {rest : List Stmt} {Q : V → ST → Prop} (h : WE C A g L E m σ (eval e env) (fun v m₁ σ₁ => Q v σ₁)) :
    X C A g L E m σ (.Return (some e) pos :: rest) env (RetOnly (fun f _ σ' => Q (retV f) σ')) := X_Return h

theorem then_next {rest : List Stmt} {Q : Flow → LM → ST → Prop} (h : X C A g L E m σ rest env Q) : Then C A g L E rest env Q .next m σ := h
theorem then_cont {rest : List Stmt} {Q : Flow → LM → ST → Prop} (h : Q .cont m σ) : Then C A g L E rest env Q .cont m σ := h
theorem turn_next {again : LM → ST → Prop} {Q : Flow → LM → ST → Prop} (h : again m σ) : TurnEnd again Q .next m σ := h
theorem turn_cont {again : LM → ST → Prop} {Q : Flow → LM → ST → Prop} (h : again m σ) : TurnEnd again Q .cont m σ := h

theorem if_ff {P R : Prop} (h : R) : if false = true then P else R := h
theorem if_tt {P R : Prop} (h : P) : if true = true then P else R := h

/-- ranges upward -/
inductive UpIs : List V → Nat → Nat → Prop
  | one {hi : Nat} (h : hi ≤ 2 ^ 60) : UpIs [.int (hi : Int)] 0 hi
  | two {lo hi : Nat} (h : hi ≤ 2 ^ 60) (hlo : lo ≤ hi) : UpIs [.int (lo : Int), .int (hi : Int)] lo hi
theorem UpIs.rangeIs {us : List V} {lo hi : Nat} (h : UpIs us lo hi) : RangeIs us lo 1 (hi - lo) ∧ lo ≤ hi := by
  cases h with
  | one h => exact ⟨by have := RangeIs.one (b := (hi : Int)) (by omega) (by omega); simpa using this, Nat.zero_le _⟩
  | two h hlo =>
    refine ⟨?_, hlo⟩
    have := RangeIs.two (a := (lo : Int)) (b := (hi : Int)) (by omega) (by omega) (by omega) (by omega)
    have e : ((hi : Int) - (lo : Int)).toNat = hi - lo := by omega
    rw [e] at this; exact this

theorem X_ForUp {ι : Type} {x : Str} {xp p rpos pos : Pos} {e : Expr} {args : List Expr} {body rest : List Stmt} {Q : Flow → LM → ST → Prop} (O : EnvOk env L) (G : Glob C g) (hh0 : A.handled = none)
    (lo hi : Nat) (hle : lo ≤ hi) (loc : Nat → ι → LM) (P : Nat → ι → ST → Prop) (j₀ : ι)
    (hx : env.kindOf x = some .local)
    (he : backTo rpos (starEach (e :: args) env) = (false, eval e env) :: backTo rpos (starEach args env)) (hp : (backTo rpos (starEach args env)).any (·.1) = false)
    (hk : env.kindOf "range" = some .globalImplicit)
    (ht : ∀ I v, letOwnedTupleGo (.Name x xp) (.ref I) v = pure ()) (hs : ∀ v, foldedSetIterable (.Call (.Name "range" p) (e :: args) [] rpos) env v = pure v)
    (h : WS C A g L E m σ rpos (e :: args) env (fun us m₁ σ₁ => UpIs us lo hi ∧ Sub (loc lo j₀) m₁ ∧ P lo j₀ σ₁))
    (turn : ∀ k j σ' g', lo ≤ k → k < hi → P k j σ' → Glob C g' →
      X C A g' L NoE ((x, .int (k : Int)) :: loc k j) σ' body env (TurnEnd (fun m₂ σ₂ => ∃ j', Sub (loc (k + 1) j') m₂ ∧ P (k + 1) j' σ₂) Q))
    (done : ∀ j σ', P hi j σ' → X C A g L E (loc hi j) σ' rest env Q) :
    X C A g L E m σ (.For (.Name x xp) (.Call (.Name "range" p) (e :: args) [] rpos) body [] pos :: rest) env Q := by
  refine X_ForRange O G hh0 lo 1 (hi - lo) (fun i j => loc (lo + i) j) (fun i j σ' => P (lo + i) j σ')
      (W_mono h fun us m₁ σ₁ ⟨hu, hsub, hP⟩ => ⟨hu.rangeIs.1, j₀, hsub, hP⟩) ?_ ?_ hx he hp hk ht hs
  · intro i j σ' g' hi' hP G'
    have e1 : (lo : Int) + (i : Int) * 1 = ((lo + i : Nat) : Int) := by omega
    rw [e1]
    exact turn (lo + i) j σ' g' (by omega) (by omega) hP G'
  · intro j σ' hP
    have e1 : lo + (hi - lo) = hi := by omega
    rw [e1] at hP ⊢
    exact done j σ' hP

/-- a range downward, from n - 1 to nought -/
theorem X_ForDown {ι : Type} {x : Str} {xp p rpos pos : Pos} {e : Expr} {args : List Expr} {body rest : List Stmt} {Q : Flow → LM → ST → Prop} (O : EnvOk env L) (G : Glob C g) (hh0 : A.handled = none)
    (n : Nat) (loc : Nat → ι → LM) (P : Nat → ι → ST → Prop) (j₀ : ι)
    (hx : env.kindOf x = some .local)
    (he : backTo rpos (starEach (e :: args) env) = (false, eval e env) :: backTo rpos (starEach args env)) (hp : (backTo rpos (starEach args env)).any (·.1) = false)
    (hk : env.kindOf "range" = some .globalImplicit)
    (ht : ∀ I v, letOwnedTupleGo (.Name x xp) (.ref I) v = pure ()) (hs : ∀ v, foldedSetIterable (.Call (.Name "range" p) (e :: args) [] rpos) env v = pure v)
    (hn : n ≤ 2 ^ 60)
    (h : WS C A g L E m σ rpos (e :: args) env (fun us m₁ σ₁ => us = [.int ((n : Int) - 1), .int (-1), .int (-1)] ∧ Sub (loc n j₀) m₁ ∧ P n j₀ σ₁))
    (turn : ∀ k j σ' g', k < n → P (k + 1) j σ' → Glob C g' →
      X C A g' L NoE ((x, .int (k : Int)) :: loc (k + 1) j) σ' body env (TurnEnd (fun m₂ σ₂ => ∃ j', Sub (loc k j') m₂ ∧ P k j' σ₂) Q))
    (done : ∀ j σ', P 0 j σ' → X C A g L E (loc 0 j) σ' rest env Q) :
    X C A g L E m σ (.For (.Name x xp) (.Call (.Name "range" p) (e :: args) [] rpos) body [] pos :: rest) env Q := by
  refine X_ForRange O G hh0 ((n : Int) - 1) (-1) n (fun i j => loc (n - i) j) (fun i j σ' => P (n - i) j σ')
      (W_mono h fun us m₁ σ₁ ⟨hu, hsub, hP⟩ => ⟨?_, j₀, hsub, hP⟩) ?_ ?_ hx he hp hk ht hs
  · rw [hu]
    have := RangeIs.down (a := (n : Int) - 1) (by omega) (by omega)
    have e : ((n : Int) - 1 + 1).toNat = n := by omega
    rw [e] at this; exact this
  · intro i j σ' g' hi' hP G'
    obtain ⟨k, hk'⟩ : ∃ k, n - i = k + 1 := ⟨n - i - 1, by omega⟩
    have e1 : (n : Int) - 1 + (i : Int) * (-1) = ((k : Nat) : Int) := by omega
    have e2 : n - (i + 1) = k := by omega
    rw [e1, e2]
    rw [hk'] at hP ⊢
    exact turn k j σ' g' (by omega) hP G'
  · intro j σ' hP
    rw [Nat.sub_self] at hP ⊢
    exact done j σ' hP

theorem cutK_allI {l : Addr} {ns : List Int} {K : V → ST → Prop} (hl : σ l = some (LI ns)) (hz : ns.length ≤ 1000) (h : ∀ n, σ n = none → K (.ref n) (upd σ n (LI ns))) : CutK σ (.ref l) none none K := cutK_all hl (by simpa using hz) h
theorem itemK_lit {l : Addr} {k x : Int} {ns : List Int} {K : V → Prop} (hl : σ l = some (LI ns)) (h0 : 0 ≤ k) (hk : k < 2 ^ 63) (hx : ns[k.toNat]? = some x) (h : K (.int x)) : ItemK σ (.ref l) (.int k) K :=
  itemK_any hl h0 hk (by rw [List.getElem?_map, hx]; rfl) h
theorem itemK_nat {l : Addr} {k : Nat} {ns : List Int} {K : V → Prop} (hl : σ l = some (LI ns)) (hk : k < ns.length) (hz : ns.length ≤ 1000) (h : K (.int (ns.getD k 0))) : ItemK σ (.ref l) (.int (k : Int)) K :=
  itemK hl (by omega) (by omega) hz (by simpa using h)
theorem itemK_plus {l : Addr} {a b : Nat} {ns : List Int} {K : V → Prop} (hl : σ l = some (LI ns)) (hk : a + b < ns.length) (hz : ns.length ≤ 1000) (h : K (.int (ns.getD (a + b) 0))) : ItemK σ (.ref l) (.int ((a : Int) + (b : Int))) K :=
  itemK hl (by omega) (by omega) hz (by
    have : ((a : Int) + (b : Int)).toNat = a + b := by omega
    rw [this]; exact h)
theorem setK_nat {a : Addr} {k : Nat} {x : Int} {ns : List Int} {K : ST → Prop} (hl : σ a = some (LI ns)) (hk : k < ns.length) (hz : ns.length ≤ 1000) (h : K (upd σ a (LI (ns.set k x)))) : SetK σ (.ref a) (.int (k : Int)) (.int x) K :=
  setK hl (by omega) (by omega) hz (by simpa using h)
theorem setK_plus {a : Addr} {k j : Nat} {x : Int} {ns : List Int} {K : ST → Prop} (hl : σ a = some (LI ns)) (hk : k + j < ns.length) (hz : ns.length ≤ 1000) (h : K (upd σ a (LI (ns.set (k + j) x)))) : SetK σ (.ref a) (.int ((k : Int) + (j : Int))) (.int x) K :=
  setK hl (by omega) (by omega) hz (by
    have : ((k : Int) + (j : Int)).toNat = k + j := by omega
    rw [this]; exact h)
theorem newK_nil {K : V → ST → Prop} (h : ∀ a, σ a = none → K (.ref a) (upd σ a (LI []))) : NewK σ (.list []) ([] : List V).length K := newK (by decide) h
theorem newK_one {x : Int} {K : V → ST → Prop} (h : ∀ a, σ a = none → K (.ref a) (upd σ a (LI [x]))) : NewK σ (.list [V.int x]) [V.int x].length K := newK (by simp) h

theorem land_zero {a b w : Nat} (h : b < 2 ^ w) : (a * 2 ^ w) &&& b = 0 := by
  apply Nat.eq_of_testBit_eq
  intro i
  rw [Nat.testBit_and, Nat.zero_testBit]
  by_cases hi : i < w
  · rw [Nat.testBit_mul_two_pow]
    simp [Nat.not_le.mpr hi]
  · have : b < 2 ^ i := Nat.lt_of_lt_of_le h (Nat.pow_le_pow_right (by decide) (by omega))
    rw [Nat.testBit_lt_two_pow this, Bool.and_false]
theorem bitAnd_zero {x y : Int} {w : Nat} (hx : 0 ≤ x) (hy : 0 ≤ y) (h : y < 2 ^ w) : Builtin.bitAnd (x * 2 ^ w) y = 0 := by
  obtain ⟨a, rfl⟩ := Int.eq_ofNat_of_zero_le hx
  obtain ⟨b, rfl⟩ := Int.eq_ofNat_of_zero_le hy
  have e : (a : Int) * 2 ^ w = ((a * 2 ^ w : Nat) : Int) := by push_cast; rfl
  rw [e]
  have hb : b < 2 ^ w := by
    have h2 : ((2 ^ w : Nat) : Int) = (2 : Int) ^ w := by push_cast; rfl
    omega
  unfold Builtin.bitAnd
  have h1 : decide (0 ≤ ((a * 2 ^ w : Nat) : Int)) = true := decide_eq_true (Int.natCast_nonneg _)
  have h2 : decide (0 ≤ ((b : Nat) : Int)) = true := decide_eq_true (Int.natCast_nonneg _)
  rw [h1, h2]
  show ((((a * 2 ^ w : Nat) : Int).toNat &&& ((b : Nat) : Int).toNat : Nat) : Int) = _
  rw [Int.toNat_natCast, Int.toNat_natCast, land_zero hb]; rfl
theorem arithK_orHi {x y : Int} {w : Nat} {K : V → Prop} (hx : 0 ≤ x) (hy : 0 ≤ y) (hl : y < 2 ^ w) (h : K (.int (x * 2 ^ w + y))) : ArithK .BitOr (.int (x * 2 ^ w)) (.int y) K :=
  arithK trivial (by show K (.int (Builtin.bitOr _ _)); rw [bitOr_and, bitAnd_zero hx hy hl, Int.sub_zero]; exact h)
theorem arithK_orLo {x y : Int} {w : Nat} {K : V → Prop} (hx : 0 ≤ x) (hy : 0 ≤ y) (hl : y < 2 ^ w) (h : K (.int (y + x * 2 ^ w))) : ArithK .BitOr (.int y) (.int (x * 2 ^ w)) K :=
  arithK trivial (by show K (.int (Builtin.bitOr _ _)); rw [bitOr_comm, bitOr_and, bitAnd_zero hx hy hl, Int.sub_zero, Int.add_comm]; exact h)
theorem augK_orLo {x y : Int} {w : Nat} {K : V → Prop} (hx : 0 ≤ x) (hy : 0 ≤ y) (hl : y < 2 ^ w) (h : K (.int (y + x * 2 ^ w))) : AugK .BitOr y (.int (x * 2 ^ w)) K :=
  augK trivial (by show K (.int (Builtin.bitOr _ _)); rw [bitOr_comm, bitOr_and, bitAnd_zero hx hy hl, Int.sub_zero, Int.add_comm]; exact h)
theorem E_mulListL {es : List Expr} {p : Pos} {r : Expr} {pos : Pos} {Q : V → LM → ST → Prop} (h : WE C A g L E m σ (eval (.List es p) env) (fun a m₁ σ₁ => WE C A g L E m₁ σ₁ (eval r env) (fun b m₂ σ₂ => MulK σ₂ a b (fun v σ₃ => Q v m₂ σ₃)))) :
    WE C A g L E m σ (eval (.BinOp (.List es p) .Mult r pos) env) Q := E_mulList h
theorem mulK_nat {t : Addr} {x : Int} {k : Nat} {K : V → ST → Prop} (hl : σ t = some (LI [x])) (hk : k ≤ 1000) (h : ∀ n, σ n = none → K (.ref n) (upd σ n (LI (List.replicate k x)))) : MulK σ (.ref t) (.int (k : Int)) K :=
  mulK (x := x) hl (by omega) (by omega) (by simpa using h)

/-- the bits of an int -/
theorem E_bitlen {o : Expr} {apos pos : Pos} {Q : V → LM → ST → Prop}
    (hbase : attributeBase o "bit_length" env (eval o env) = eval o env) (hline : (apos.endLine == pos.line) = true)
    (h : WE C A g L E m σ (eval o env) (fun v m₁ σ₁ => IntK v (fun i => Q (.int (Builtin.Int.intBits i)) m₁ σ₁))) :
    WE C A g L E m σ (eval (.Call (.Attribute o "bit_length" apos) [] [] pos) env) Q := fun hh tk R => by
  rw [arm_eval_Call, hbase]
  refine wpAny_bind (go (h hh tk R) (fun ov h₁ tk₁ m₁ σ₁ R₁ ⟨i, ei, q⟩ => ?_) fun _ _ e => e)
  obtain ⟨t, rfl⟩ := er_int ei
  refine wpAny_bind (wpAny_standAt ?_)
  have fin : wpAny (model C.prog C.w) A (callWith pos (.builtin "int.bit_length") [.int i t] (backTo pos (starEach [] env)) []) (Post C g L (fun v => Q (er v))) E (shared C h₁ tk₁) := by
    refine Calls.callWith_builtin rfl (evalArgs_nil3 ?_)
    exact call_int_bit_length ⟨h₁, _, m₁, σ₁, rfl, R₁, q⟩
  have hform : methodCallForm (([] : List Expr).length + ([] : List Keyword).length) (backTo pos (starEach [] env)) (backToKw pos (keywordEach [] env)) = true := rfl
  have hpos : methodCallPos true o env apos pos = pure pos := by unfold methodCallPos; simp [hline]
  unfold methodCall
  rw [hform]
  refine wpAny_bind (wpAny_holding (getMethod_int_bit_length ?_))
  exact wpAny_bind (wpAny_of_eq hpos fin)

theorem X_ForListI {ι : Type} {x : Str} {xp pos : Pos} {e : Expr} {body rest : List Stmt} {Q : Flow → LM → ST → Prop} (O : EnvOk env L) (G : Glob C g) (hh0 : A.handled = none)
    (l : Addr) (ns : List Int) (loc : Nat → ι → LM) (P : Nat → ι → ST → Prop) (j₀ : ι)
    (hx : env.kindOf x = some .local)
    (ht : ∀ I v, letOwnedTupleGo (.Name x xp) (.ref I) v = pure ()) (hs : ∀ v, foldedSetIterable e env v = pure v)
    (h : WE C A g L E m σ (eval e env) (fun v m₁ σ₁ => v = .ref l ∧ Sub (loc 0 j₀) m₁ ∧ P 0 j₀ σ₁)) (hl : ∀ i j σ', P i j σ' → σ' l = some (LI ns))
    (turn : ∀ i j σ' g', i < ns.length → P i j σ' → Glob C g' →
      X C A g' L NoE ((x, .int (ns.getD i 0)) :: loc i j) σ' body env (TurnEnd (fun m₂ σ₂ => ∃ j', Sub (loc (i + 1) j') m₂ ∧ P (i + 1) j' σ₂) Q))
    (done : ∀ j σ', P ns.length j σ' → X C A g L E (loc ns.length j) σ' rest env Q) :
    X C A g L E m σ (.For (.Name x xp) e body [] pos :: rest) env Q := by
  have hz : (ns.map V.int).length = ns.length := List.length_map ..
  refine X_ForList O G hh0 l (ns.map V.int) loc P (WE_mono h fun v m₁ σ₁ ⟨e, hs, hp⟩ => ⟨e, j₀, hs, hp⟩) hl (fun i j σ' g' hi hP G' => ?_) (fun j σ' hP => by rw [hz] at hP ⊢; exact done j σ' hP) hx ht hs
  rw [hz] at hi
  have : (ns.map V.int).getD i .none = .int (ns.getD i 0) := by simp [List.getD, hi]
  rw [this]
  exact turn i j σ' g' hi hP G'
theorem X_ForEnumI {ι : Type} {x y : Str} {xp yp tp p rpos pos : Pos} {tn : Nat} {e : Expr} {body rest : List Stmt} {Q : Flow → LM → ST → Prop} (O : EnvOk env L) (G : Glob C g) (hh0 : A.handled = none)
    (l : Addr) (ns : List Int) (loc : Nat → ι → LM) (P : Nat → ι → ST → Prop) (j₀ : ι)
    (hx : env.kindOf x = some .local) (hy : env.kindOf y = some .local)
    (he : backTo rpos (starEach [e] env) = (false, eval e env) :: backTo rpos (starEach [] env)) (hk : env.kindOf "enumerate" = some .globalImplicit)
    (hs : ∀ v, foldedSetIterable (.Call (.Name "enumerate" p) [e] [] rpos) env v = pure v)
    (h : WS C A g L E m σ rpos [e] env (fun us m₁ σ₁ => us = [.ref l] ∧ Sub (loc 0 j₀) m₁ ∧ P 0 j₀ σ₁)) (hl : ∀ i j σ', P i j σ' → σ' l = some (LI ns))
    (turn : ∀ i j σ' g', i < ns.length → P i j σ' → Glob C g' →
      X C A g' L NoE ((y, .int (ns.getD i 0)) :: (x, .int i) :: loc i j) σ' body env (TurnEnd (fun m₂ σ₂ => ∃ j', Sub (loc (i + 1) j') m₂ ∧ P (i + 1) j' σ₂) Q))
    (done : ∀ j σ', P ns.length j σ' → X C A g L E (loc ns.length j) σ' rest env Q) :
    X C A g L E m σ (.For (.Tuple [.Name x xp, .Name y yp] tn tp) (.Call (.Name "enumerate" p) [e] [] rpos) body [] pos :: rest) env Q := by
  have hz : (ns.map V.int).length = ns.length := List.length_map ..
  refine X_ForEnum O G hh0 l (ns.map V.int) loc P (W_mono h fun us m₁ σ₁ ⟨e, hs, hp⟩ => ⟨e, j₀, hs, hp⟩) hl (fun i j σ' g' hi hP G' => ?_) (fun j σ' hP => by rw [hz] at hP ⊢; exact done j σ' hP) hx hy he hk hs
  rw [hz] at hi
  have : (ns.map V.int).getD i .none = .int (ns.getD i 0) := by simp [List.getD, hi]
  rw [this]
  exact turn i j σ' g' hi hP G'

end

/-- what a call gives back: a new list of limbs -/
def RetL (σ : ST) (K : V → ST → Prop) (ns : List Int) : Prop := ∀ r σ', Le σ σ' → σ r = none → σ' r = some (LI ns) → K (.ref r) σ'
theorem RetL.up {σ σ' : ST} {K : V → ST → Prop} {ns : List Int} (h : RetL σ K ns) (hle : Le σ σ') : RetL σ' K ns := fun r σ'' hle' hr hr' => h r σ'' (hle.trans hle') (by
  cases e : σ r with
  | none => rfl
  | some o => rw [hle _ _ e] at hr; cases hr) hr'
theorem le_none {σ σ' : ST} {a : Addr} (h : Le σ σ') (ha : σ' a = none) : σ a = none := by
  cases e : σ a with
  | none => rfl
  | some o => rw [h _ _ e] at ha; cases ha


/-! ## P1 -/

/-! numbers as lists of limbs -/
noncomputable def val (w : Nat) : List Int → Int
  | [] => 0
  | x :: r => x + 2 ^ w * val w r
def Dig (w : Nat) (ns : List Int) : Prop := ∀ x ∈ ns, 0 ≤ x ∧ x < 2 ^ w

theorem pw_pos (w : Nat) : (0 : Int) < 2 ^ w := Int.pow_pos (by decide)
theorem pw_ge2 {w : Nat} (h : 1 ≤ w) : (2 : Int) ≤ 2 ^ w := by
  obtain ⟨k, rfl⟩ : ∃ k, w = k + 1 := ⟨w - 1, by omega⟩
  have := pw_pos k
  rw [Int.pow_succ]; omega
theorem pw_nat (w : Nat) : ((2 ^ w : Nat) : Int) = 2 ^ w := by push_cast; rfl

theorem val_append (w : Nat) : ∀ xs ys : List Int, val w (xs ++ ys) = val w xs + (2 ^ w) ^ xs.length * val w ys
  | [], ys => by simp [val]
  | x :: r, ys => by
    rw [List.cons_append, val, val_append w r ys, val, List.length_cons, Int.pow_succ]
    grind
theorem Dig.nil (w : Nat) : Dig w [] := fun _ h => nomatch h
theorem Dig.cons {w : Nat} {x : Int} {r : List Int} (h0 : 0 ≤ x) (h1 : x < 2 ^ w) (h : Dig w r) : Dig w (x :: r) := fun y hy => by
  rcases List.mem_cons.mp hy with rfl | hy
  · exact ⟨h0, h1⟩
  · exact h y hy
theorem Dig.head {w : Nat} {x : Int} {r : List Int} (h : Dig w (x :: r)) : 0 ≤ x ∧ x < 2 ^ w := h x (.head _)
theorem Dig.tail {w : Nat} {x : Int} {r : List Int} (h : Dig w (x :: r)) : Dig w r := fun y hy => h y (.tail _ hy)
theorem Dig.append {w : Nat} {xs ys : List Int} (h : Dig w xs) (h' : Dig w ys) : Dig w (xs ++ ys) := fun y hy => (List.mem_append.mp hy).elim (h y) (h' y)
theorem Dig.left {w : Nat} {xs ys : List Int} (h : Dig w (xs ++ ys)) : Dig w xs := fun y hy => h y (List.mem_append_left _ hy)
theorem Dig.right {w : Nat} {xs ys : List Int} (h : Dig w (xs ++ ys)) : Dig w ys := fun y hy => h y (List.mem_append_right _ hy)
theorem Dig.sub {w : Nat} {xs ys : List Int} (h : Dig w ys) (hs : ∀ x ∈ xs, x ∈ ys) : Dig w xs := fun y hy => h y (hs y hy)
theorem Dig.take {w : Nat} {xs : List Int} (h : Dig w xs) (k : Nat) : Dig w (xs.take k) := h.sub fun _ hx => List.mem_of_mem_take hx
theorem Dig.drop {w : Nat} {xs : List Int} (h : Dig w xs) (k : Nat) : Dig w (xs.drop k) := h.sub fun _ hx => List.mem_of_mem_drop hx
theorem Dig.set {w : Nat} {xs : List Int} (h : Dig w xs) (k : Nat) {x : Int} (h0 : 0 ≤ x) (h1 : x < 2 ^ w) : Dig w (xs.set k x) := fun y hy => by
  rcases List.mem_or_eq_of_mem_set hy with hy | rfl
  · exact h y hy
  · exact ⟨h0, h1⟩
theorem Dig.zeros (w k : Nat) : Dig w (List.replicate k 0) := fun y hy => by
  rw [List.eq_of_mem_replicate hy]; exact ⟨Int.le_refl _, pw_pos w⟩
theorem Dig.getD {w : Nat} {xs : List Int} (h : Dig w xs) (k : Nat) : 0 ≤ xs.getD k 0 ∧ xs.getD k 0 < 2 ^ w := by
  by_cases hk : k < xs.length
  · have e : xs.getD k 0 = xs[k] := by simp [List.getD, hk]
    rw [e]; exact h _ (List.getElem_mem hk)
  · have e : xs.getD k 0 = 0 := by simp [List.getD, hk]
    rw [e]; exact ⟨Int.le_refl _, pw_pos w⟩
theorem val_zeros (w : Nat) : ∀ k : Nat, val w (List.replicate k 0) = 0
  | 0 => rfl
  | k + 1 => by rw [List.replicate_succ, val, val_zeros w k]; simp
theorem val_nonneg {w : Nat} : ∀ {ns : List Int}, Dig w ns → 0 ≤ val w ns
  | [], _ => Int.le_refl _
  | x :: r, h => by
    have h1 := val_nonneg h.tail
    have h2 := h.head
    have h3 : 0 ≤ (2 : Int) ^ w * val w r := Int.mul_nonneg (Int.le_of_lt (pw_pos w)) h1
    rw [val]; omega
theorem val_lt {w : Nat} : ∀ {ns : List Int}, Dig w ns → val w ns < (2 ^ w) ^ ns.length
  | [], _ => by simp [val]
  | x :: r, h => by
    have h1 := val_lt h.tail
    have h2 := h.head
    rw [val, List.length_cons, Int.pow_succ]
    have hp := pw_pos w
    have h3 : (2 : Int) ^ w * (val w r + 1) ≤ 2 ^ w * (2 ^ w) ^ r.length := Int.mul_le_mul_of_nonneg_left (by omega) (Int.le_of_lt hp)
    rw [Int.mul_add, Int.mul_one] at h3
    rw [Int.mul_comm ((2 ^ w) ^ r.length)]
    omega

/-- the limbs of a number -/
noncomputable def limbsF (w : Nat) : Nat → Nat → List Int
  | 0, _ => []
  | f + 1, n => if n = 0 then [] else ((n % 2 ^ w : Nat) : Int) :: limbsF w f (n / 2 ^ w)
noncomputable def limbs (w n : Nat) : List Int := limbsF w n n
theorem limbsF_eq {w : Nat} (hw : 1 ≤ w) : ∀ (f f' n : Nat), n ≤ f → n ≤ f' → limbsF w f n = limbsF w f' n
  | 0, f', n, h, _ => by
    have : n = 0 := by omega
    subst this
    cases f' <;> simp [limbsF]
  | f + 1, 0, n, _, h => by
    have : n = 0 := by omega
    subst this
    simp [limbsF]
  | f + 1, f' + 1, n, h, h' => by
    by_cases hn : n = 0
    · simp [limbsF, hn]
    · simp only [limbsF, hn, if_false]
      congr 1
      have h2 : 2 ≤ 2 ^ w := by
        have := Nat.pow_le_pow_right (show 0 < 2 by decide) hw
        simpa using this
      have : n / 2 ^ w < n := Nat.div_lt_self (by omega) (by omega)
      exact limbsF_eq hw f f' _ (by omega) (by omega)
theorem limbs_zero (w : Nat) : limbs w 0 = [] := rfl
theorem limbs_pos {w n : Nat} (hw : 1 ≤ w) (hn : n ≠ 0) : limbs w n = ((n % 2 ^ w : Nat) : Int) :: limbs w (n / 2 ^ w) := by
  obtain ⟨k, rfl⟩ : ∃ k, n = k + 1 := ⟨n - 1, by omega⟩
  have h2 : 2 ≤ 2 ^ w := by
    have := Nat.pow_le_pow_right (show 0 < 2 by decide) hw
    simpa using this
  have : (k + 1) / 2 ^ w < k + 1 := Nat.div_lt_self (by omega) (by omega)
  rw [limbs, limbsF, if_neg hn]
  congr 1
  exact limbsF_eq hw _ _ _ (by omega) (Nat.le_refl _)
theorem limbs_nil {w n : Nat} (hw : 1 ≤ w) : limbs w n = [] ↔ n = 0 := by
  constructor
  · intro h
    by_cases hn : n = 0
    · exact hn
    · rw [limbs_pos hw hn] at h; cases h
  · rintro rfl; rfl
theorem limbs_dig {w : Nat} (hw : 1 ≤ w) (n : Nat) : Dig w (limbs w n) := by
  induction n using Nat.strongRecOn with
  | ind n ih =>
    by_cases hn : n = 0
    · subst hn; exact Dig.nil w
    · rw [limbs_pos hw hn]
      have h2 : 2 ≤ 2 ^ w := by
        have := Nat.pow_le_pow_right (show 0 < 2 by decide) hw
        simpa using this
      have h3 : n % 2 ^ w < 2 ^ w := Nat.mod_lt _ (by omega)
      refine Dig.cons (by omega) ?_ (ih _ (Nat.div_lt_self (by omega) (by omega)))
      rw [← pw_nat]; exact Int.ofNat_lt.mpr h3
theorem limbs_val {w : Nat} (hw : 1 ≤ w) (n : Nat) : val w (limbs w n) = n := by
  induction n using Nat.strongRecOn with
  | ind n ih =>
    by_cases hn : n = 0
    · subst hn; rfl
    · rw [limbs_pos hw hn, val]
      have h2 : 2 ≤ 2 ^ w := by
        have := Nat.pow_le_pow_right (show 0 < 2 by decide) hw
        simpa using this
      rw [ih _ (Nat.div_lt_self (by omega) (by omega)), ← pw_nat, ← Int.natCast_mul, ← Int.natCast_add, Nat.mod_add_div]

/-- no nought at the end -/
def Nrm (ns : List Int) : Prop := ns = [] ∨ ns.getD (ns.length - 1) 0 ≠ 0
theorem Nrm.tail {x : Int} {r : List Int} (h : Nrm (x :: r)) : Nrm r := by
  cases r with
  | nil => exact .inl rfl
  | cons y r => right; rcases h with h | h
                · cases h
                · simpa using h
theorem val_eq_zero {w : Nat} : ∀ {ns : List Int}, Dig w ns → Nrm ns → val w ns = 0 → ns = []
  | [], _, _, _ => rfl
  | x :: r, hd, hn, hv => by
    have h1 := val_nonneg hd.tail
    have h2 := hd.head
    have hp := pw_pos w
    have h3 : 0 ≤ (2 : Int) ^ w * val w r := Int.mul_nonneg (Int.le_of_lt hp) h1
    rw [val] at hv
    have h4 : (2 : Int) ^ w * val w r = 0 := by omega
    have h5 : val w r = 0 := by
      rcases Int.mul_eq_zero.mp h4 with h | h
      · omega
      · exact h
    have := val_eq_zero hd.tail hn.tail h5
    subst this
    rcases hn with hn | hn
    · cases hn
    · simp at hn; omega
theorem limbs_of {w : Nat} (hw : 1 ≤ w) : ∀ {ns : List Int}, Dig w ns → Nrm ns → limbs w (val w ns).toNat = ns
  | [], _, _ => rfl
  | x :: r, hd, hn => by
    have h1 := val_nonneg hd
    have hne : (val w (x :: r)).toNat ≠ 0 := fun h => by
      have := val_eq_zero hd hn (by omega)
      cases this
    have h2 := hd.head
    have h3 := val_nonneg hd.tail
    have hp := pw_pos w
    rw [limbs_pos hw hne]
    have hx : (val w (x :: r)) % 2 ^ w = x := by
      rw [val, Int.add_mul_emod_self_left]
      exact Int.emod_eq_of_lt h2.1 h2.2
    have hr : (val w (x :: r)) / 2 ^ w = val w r := by
      rw [val, Int.add_mul_ediv_left _ _ (by omega), Int.ediv_eq_zero_of_lt h2.1 h2.2]; omega
    obtain ⟨n, hn'⟩ := Int.eq_ofNat_of_zero_le h1
    rw [hn'] at hx hr ⊢
    rw [Int.toNat_natCast]
    have e1 : ((n % 2 ^ w : Nat) : Int) = x := by rw [← hx, ← pw_nat, ← Int.natCast_emod]
    have e2 : n / 2 ^ w = (val w r).toNat := by
      rw [← hr, ← pw_nat, ← Int.natCast_ediv, Int.toNat_natCast]
    rw [e1, e2, limbs_of hw hd.tail hn.tail]
theorem limbs_nrm {w : Nat} (hw : 1 ≤ w) (n : Nat) : Nrm (limbs w n) := by
  induction n using Nat.strongRecOn with
  | ind n ih =>
    by_cases hn : n = 0
    · subst hn; exact .inl rfl
    · rw [limbs_pos hw hn]
      have h2 : 2 ≤ 2 ^ w := by
        have := Nat.pow_le_pow_right (show 0 < 2 by decide) hw
        simpa using this
      right
      by_cases hq : n / 2 ^ w = 0
      · rw [hq, limbs_zero]
        have : n % 2 ^ w = n := by
          have := Nat.mod_add_div n (2 ^ w); rw [hq] at this; omega
        simp [this]; omega
      · have h := ih _ (Nat.div_lt_self (by omega) (show 1 < 2 ^ w by omega))
        rcases h with h | h
        · rw [limbs_nil hw] at h; exact absurd h hq
        · rw [limbs_pos hw hq] at h ⊢
          simpa using h
theorem limbs_inj {w : Nat} (hw : 1 ≤ w) {a b : Nat} (h : limbs w a = limbs w b) : a = b := by
  have := congrArg (val w) h
  rw [limbs_val hw, limbs_val hw] at this
  exact Int.ofNat.inj this

/-- without the noughts at the end -/
def strip (ns : List Int) : List Int := (ns.reverse.dropWhile (· == 0)).reverse
theorem strip_take {ns : List Int} {k : Nat} (hk : k ≤ ns.length) (h : strip (ns.take k) = strip ns) (hs : k = 0 ∨ ns.getD (k - 1) 0 ≠ 0) : ns.take k = strip ns := by
  rw [← h]
  unfold strip
  rcases hs with rfl | hs
  · simp
  · cases k with
    | zero => simp
    | succ k =>
      have hlt : k < ns.length := hk
      have e : ns.take (k + 1) = ns.take k ++ [ns[k]] := by rw [List.take_add_one, List.getElem?_eq_getElem hlt]; rfl
      have h0 : ns[k] ≠ 0 := by simpa [List.getD, hlt] using hs
      rw [e, List.reverse_append]
      simp [List.dropWhile, h0]
theorem strip_zero {ns : List Int} {k : Nat} (hk : k < ns.length) (h : strip (ns.take (k + 1)) = strip ns) (hs : ns.getD k 0 = 0) : strip (ns.take k) = strip ns := by
  rw [← h]
  have e : ns.take (k + 1) = ns.take k ++ [ns[k]] := by rw [List.take_add_one, List.getElem?_eq_getElem hk]; rfl
  have h0 : ns[k] = 0 := by simpa [List.getD, hk] using hs
  unfold strip
  rw [e, List.reverse_append]
  simp [List.dropWhile, h0]
/-- each list is its stripped one and noughts -/
theorem strip_split (ns : List Int) : ∃ k, ns = strip ns ++ List.replicate k 0 := by
  suffices h : ∀ rs : List Int, ∃ k, rs = List.replicate k 0 ++ rs.dropWhile (· == 0) by
    obtain ⟨k, hk⟩ := h ns.reverse
    refine ⟨k, ?_⟩
    have := congrArg List.reverse hk
    rw [List.reverse_reverse, List.reverse_append, List.reverse_replicate] at this
    exact this
  intro rs
  induction rs with
  | nil => exact ⟨0, rfl⟩
  | cons x r ih =>
    by_cases hx : x = 0
    · obtain ⟨k, hk⟩ := ih
      refine ⟨k + 1, ?_⟩
      subst hx
      rw [List.replicate_succ, List.dropWhile_cons_of_pos (by simp), List.cons_append, ← hk]
    · exact ⟨0, by rw [List.dropWhile_cons_of_neg (by simpa using hx)]; rfl⟩
theorem strip_nrm (ns : List Int) : Nrm (strip ns) := by
  suffices h : ∀ rs : List Int, rs.dropWhile (· == 0) = [] ∨ (rs.dropWhile (· == 0)).headD 0 ≠ 0 by
    rcases h ns.reverse with h | h
    · left; unfold strip; rw [h]; rfl
    · right
      unfold strip
      generalize ns.reverse.dropWhile (· == 0) = l at h
      cases l with
      | nil => simp at h
      | cons x r => simpa [List.getD] using h
  intro rs
  induction rs with
  | nil => exact .inl rfl
  | cons x r ih =>
    by_cases hx : x = 0
    · rw [List.dropWhile_cons_of_pos (by simpa using hx)]; exact ih
    · rw [List.dropWhile_cons_of_neg (by simpa using hx)]; right; simpa using hx
theorem strip_val (w : Nat) (ns : List Int) : val w (strip ns) = val w ns := by
  obtain ⟨k, hk⟩ := strip_split ns
  have := congrArg (val w) hk
  rw [val_append, val_zeros] at this
  simpa using this.symm
theorem strip_dig {w : Nat} {ns : List Int} (h : Dig w ns) : Dig w (strip ns) := by
  obtain ⟨k, hk⟩ := strip_split ns
  rw [hk] at h; exact h.left
theorem strip_limbs {w : Nat} (hw : 1 ≤ w) {ns : List Int} (h : Dig w ns) : strip ns = limbs w (val w ns).toNat := by
  rw [← strip_val, limbs_of hw (strip_dig h) (strip_nrm ns)]

theorem limbs_len {w : Nat} (hw : 1 ≤ w) {n k : Nat} (h : n < (2 ^ w) ^ k) : (limbs w n).length ≤ k := by
  induction k generalizing n with
  | zero =>
    have : n = 0 := by simpa using h
    subst this; simp [limbs_zero]
  | succ k ih =>
    by_cases hn : n = 0
    · subst hn; simp [limbs_zero]
    · rw [limbs_pos hw hn, List.length_cons]
      have : n / 2 ^ w < (2 ^ w) ^ k := by
        rw [Nat.div_lt_iff_lt_mul (Nat.pow_pos (by decide))]
        rw [Nat.pow_succ] at h; exact h
      have := ih this
      omega
/-- short enough -/
theorem limbs_short {w : Nat} (hw : 1 ≤ w) {n : Nat} (h : n < 2 ^ 64) : (limbs w n).length ≤ 64 :=
  limbs_len hw (Nat.lt_of_lt_of_le h (by rw [← Nat.pow_mul]; exact Nat.pow_le_pow_right (by decide) (by omega)))

theorem limbs_short2 {w : Nat} (hw : 1 ≤ w) {n : Nat} (h : n < 2 ^ 100) : (limbs w n).length ≤ 100 :=
  limbs_len hw (Nat.lt_of_lt_of_le h (by rw [← Nat.pow_mul]; exact Nat.pow_le_pow_right (by decide) (by omega)))

/-- by the lengths -/
theorem val_ge {w : Nat} : ∀ {ns : List Int}, Dig w ns → Nrm ns → ns ≠ [] → (2 ^ w) ^ (ns.length - 1) ≤ val w ns
  | [], _, _, h => absurd rfl h
  | [x], hd, hn, _ => by
    have h1 := hd.head
    rcases hn with hn | hn
    · cases hn
    · simp at hn; simp [val]; omega
  | x :: y :: r, hd, hn, _ => by
    have ih := val_ge hd.tail hn.tail (by simp)
    have h1 := hd.head
    rw [val]
    simp only [List.length_cons, Nat.add_sub_cancel] at ih ⊢
    rw [Int.pow_succ, Int.mul_comm]
    have := Int.mul_le_mul_of_nonneg_left ih (Int.le_of_lt (pw_pos w))
    omega
theorem limbs_len_lt {w : Nat} (hw : 1 ≤ w) {a b : Nat} (h : (limbs w a).length < (limbs w b).length) : a < b := by
  have h1 := val_lt (limbs_dig hw a)
  rw [limbs_val hw] at h1
  have hb : limbs w b ≠ [] := fun e => by rw [e] at h; simp at h
  have h2 := val_ge (limbs_dig hw b) (limbs_nrm hw b) hb
  rw [limbs_val hw] at h2
  have h3 : ((2 : Int) ^ w) ^ (limbs w a).length ≤ (2 ^ w) ^ ((limbs w b).length - 1) := by
    have := Nat.pow_le_pow_right (n := 2 ^ w) (Nat.pow_pos (by decide)) (show (limbs w a).length ≤ (limbs w b).length - 1 by omega)
    have := Int.ofNat_le.mpr this
    push_cast at this
    exact this
  omega

/-! ## P2 -/

/-! fractions in least terms -/
theorem cop_of {a b : Nat} (h : ∀ d, d ∣ a → d ∣ b → d = 1) : Nat.gcd a b = 1 := h _ (Nat.gcd_dvd_left a b) (Nat.gcd_dvd_right a b)
theorem one_of {a b d : Nat} (h : Nat.gcd a b = 1) (ha : d ∣ a) (hb : d ∣ b) : d = 1 := by
  have := Nat.dvd_gcd ha hb
  rw [h] at this
  exact Nat.dvd_one.mp this

/-- a sum: what goes out of it -/
theorem add_least {p1 p2 : Int} {q1 q2 g h k o : Nat} {t p : Int} {r : Nat} (h1 : Nat.gcd p1.natAbs q1 = 1) (h2 : Nat.gcd p2.natAbs q2 = 1) (hq1 : 0 < q1) (hq2 : 0 < q2)
    (hg : g = Nat.gcd q1 q2) (hh : q1 = h * g) (hk : q2 = k * g) (ht : t = p1 * k + p2 * h) (ho : o = Nat.gcd t.natAbs g) (htp : t = p * o) (hr : q2 = r * o) :
    p * ((q1 : Int) * q2) = (p1 * q2 + p2 * q1) * ((h * r : Nat) : Int) ∧ Nat.gcd p.natAbs (h * r) = 1 := by
  have hg0 : 0 < g := by rw [hg]; exact Nat.gcd_pos_of_pos_left _ hq1
  have ho0 : 0 < o := by rw [ho]; exact Nat.gcd_pos_of_pos_right _ hg0
  constructor
  · have e1 : (q1 : Int) = h * g := by rw [hh]; push_cast; rfl
    have e2 : (q2 : Int) = k * g := by rw [hk]; push_cast; rfl
    have e3 : (q2 : Int) = r * o := by rw [hr]; push_cast; rfl
    have e4 : p1 * q2 + p2 * q1 = g * t := by rw [e1, e2, ht]; grind
    rw [e4, e1, htp]
    push_cast
    rw [e3]
    grind
  · obtain ⟨g', hg'⟩ : o ∣ g := by rw [ho]; exact Nat.gcd_dvd_right _ _
    have hhk : Nat.gcd h k = 1 := by
      have : Nat.gcd (h * g) (k * g) = Nat.gcd h k * g := Nat.gcd_mul_right h g k
      rw [← hh, ← hk, ← hg] at this
      have h3 : Nat.gcd h k * g = 1 * g := by omega
      exact Nat.eq_of_mul_eq_mul_right hg0 h3
    have hrk : r = k * g' := by
      have : r * o = k * g' * o := by rw [← hr, hk, hg']; rw [Nat.mul_comm o g', Nat.mul_assoc]
      exact Nat.eq_of_mul_eq_mul_right ho0 this
    have tabs : t.natAbs = p.natAbs * o := by rw [htp, Int.natAbs_mul, Int.natAbs_natCast]
    -- what divides p divides t
    have pt : ∀ d, d ∣ p.natAbs → (d : Int) ∣ t := fun d hd => by
      rw [htp]; exact Int.dvd_mul_of_dvd_left (Int.ofNat_dvd_left.mpr hd)
    have ph : ∀ d, d ∣ p.natAbs → d ∣ h → d = 1 := fun d hd hdh => by
      have a1 : (d : Int) ∣ p2 * h := Int.dvd_mul_of_dvd_right (Int.natCast_dvd_natCast.mpr hdh)
      have a2 : (d : Int) ∣ p1 * k := by
        have := Int.dvd_sub (pt d hd) a1
        rw [ht, Int.add_sub_cancel] at this; exact this
      have a3 : d ∣ p1.natAbs * k := by
        have := Int.ofNat_dvd_left.mp a2
        rwa [Int.natAbs_mul, Int.natAbs_natCast] at this
      have a4 : Nat.gcd d k = 1 := cop_of fun e he1 he2 => one_of hhk (Nat.dvd_trans he1 hdh) he2
      have a5 : d ∣ p1.natAbs := Nat.Coprime.dvd_of_dvd_mul_right a4 a3
      exact one_of h1 a5 (by rw [hh]; exact Nat.dvd_trans hdh (Nat.dvd_mul_right h g))
    have pk : ∀ d, d ∣ p.natAbs → d ∣ k → d = 1 := fun d hd hdk => by
      have a1 : (d : Int) ∣ p1 * k := Int.dvd_mul_of_dvd_right (Int.natCast_dvd_natCast.mpr hdk)
      have a2 : (d : Int) ∣ p2 * h := by
        have := Int.dvd_sub (pt d hd) a1
        rw [ht, Int.add_comm, Int.add_sub_cancel] at this; exact this
      have a3 : d ∣ p2.natAbs * h := by
        have := Int.ofNat_dvd_left.mp a2
        rwa [Int.natAbs_mul, Int.natAbs_natCast] at this
      have a4 : Nat.gcd d h = 1 := cop_of fun e he1 he2 => one_of hhk he2 (Nat.dvd_trans he1 hdk)
      have a5 : d ∣ p2.natAbs := Nat.Coprime.dvd_of_dvd_mul_right a4 a3
      exact one_of h2 a5 (by rw [hk]; exact Nat.dvd_trans hdk (Nat.dvd_mul_right k g))
    have pg : ∀ d, d ∣ p.natAbs → d ∣ g' → d = 1 := fun d hd hdg => by
      have a1 : d * o ∣ t.natAbs := by rw [tabs]; exact Nat.mul_dvd_mul_right hd o
      have a2 : d * o ∣ g := by rw [hg', Nat.mul_comm o g']; exact Nat.mul_dvd_mul_right hdg o
      have a3 : d * o ∣ o := by
        have := Nat.dvd_gcd a1 a2
        rw [← ho] at this; exact this
      have a4 : d * o ≤ 1 * o := by have := Nat.le_of_dvd ho0 a3; omega
      have a5 : d ≤ 1 := Nat.le_of_mul_le_mul_right a4 ho0
      rcases Nat.eq_zero_or_pos d with h0 | h0
      · subst h0
        have := Nat.zero_dvd.mp hdg
        subst this
        rw [Nat.mul_zero] at hg'
        omega
      · omega
    have c1 : Nat.gcd p.natAbs h = 1 := cop_of ph
    have c2 : Nat.gcd p.natAbs k = 1 := cop_of pk
    have c3 : Nat.gcd p.natAbs g' = 1 := cop_of pg
    rw [hrk]
    exact Nat.Coprime.mul_right c1 (Nat.Coprime.mul_right c2 c3)

/-- a product, each top cut by the other bottom -/
theorem mul_least {p1 p2 : Int} {q1 q2 a b r1 r2 : Nat} {s1 s2 : Int} (h1 : Nat.gcd p1.natAbs q1 = 1) (h2 : Nat.gcd p2.natAbs q2 = 1) (hq1 : 0 < q1) (hq2 : 0 < q2)
    (ha : a = Nat.gcd p1.natAbs q2) (hb : b = Nat.gcd p2.natAbs q1) (e1 : p1 = s1 * a) (e2 : p2 = s2 * b) (f1 : q1 = r1 * b) (f2 : q2 = r2 * a) :
    (s1 * s2) * ((q1 : Int) * q2) = (p1 * p2) * ((r1 * r2 : Nat) : Int) ∧ Nat.gcd (s1 * s2).natAbs (r1 * r2) = 1 := by
  have ha0 : 0 < a := by rw [ha]; exact Nat.gcd_pos_of_pos_right _ hq2
  have hb0 : 0 < b := by rw [hb]; exact Nat.gcd_pos_of_pos_right _ hq1
  constructor
  · have g1 : (q1 : Int) = r1 * b := by rw [f1]; push_cast; rfl
    have g2 : (q2 : Int) = r2 * a := by rw [f2]; push_cast; rfl
    rw [g1, g2, e1, e2]
    push_cast
    grind
  · have n1 : p1.natAbs = s1.natAbs * a := by rw [e1, Int.natAbs_mul, Int.natAbs_natCast]
    have n2 : p2.natAbs = s2.natAbs * b := by rw [e2, Int.natAbs_mul, Int.natAbs_natCast]
    have c11 : Nat.gcd s1.natAbs r1 = 1 := cop_of fun d h3 h4 => one_of h1 (by rw [n1]; exact Nat.dvd_trans h3 (Nat.dvd_mul_right _ _)) (by rw [f1]; exact Nat.dvd_trans h4 (Nat.dvd_mul_right _ _))
    have c22 : Nat.gcd s2.natAbs r2 = 1 := cop_of fun d h3 h4 => one_of h2 (by rw [n2]; exact Nat.dvd_trans h3 (Nat.dvd_mul_right _ _)) (by rw [f2]; exact Nat.dvd_trans h4 (Nat.dvd_mul_right _ _))
    have c12 : Nat.gcd s1.natAbs r2 = 1 := by
      have : Nat.gcd (s1.natAbs * a) (r2 * a) = Nat.gcd s1.natAbs r2 * a := Nat.gcd_mul_right _ _ _
      rw [← n1, ← f2, ← ha] at this
      have h3 : Nat.gcd s1.natAbs r2 * a = 1 * a := by omega
      exact Nat.eq_of_mul_eq_mul_right ha0 h3
    have c21 : Nat.gcd s2.natAbs r1 = 1 := by
      have : Nat.gcd (s2.natAbs * b) (r1 * b) = Nat.gcd s2.natAbs r1 * b := Nat.gcd_mul_right _ _ _
      rw [← n2, ← f1, ← hb] at this
      have h3 : Nat.gcd s2.natAbs r1 * b = 1 * b := by omega
      exact Nat.eq_of_mul_eq_mul_right hb0 h3
    rw [Int.natAbs_mul]
    exact Nat.Coprime.mul_left (Nat.Coprime.mul_right c11 c12) (Nat.Coprime.mul_right c21 c22)

/-- least terms are one -/
theorem least_unique {p p' : Int} {q q' : Nat} (hq : 0 < q) (hq' : 0 < q') (h : p * q' = p' * q) (c : Nat.gcd p.natAbs q = 1) (c' : Nat.gcd p'.natAbs q' = 1) : p = p' ∧ q = q' := by
  have e : p.natAbs * q' = p'.natAbs * q := by
    have := congrArg Int.natAbs h
    rwa [Int.natAbs_mul, Int.natAbs_mul, Int.natAbs_natCast, Int.natAbs_natCast] at this
  have d1 : q ∣ q' := by
    have : q ∣ p.natAbs * q' := by rw [e]; exact Nat.dvd_mul_left _ _
    exact Nat.Coprime.dvd_of_dvd_mul_left (Nat.Coprime.symm c) this
  have d2 : q' ∣ q := by
    have : q' ∣ p'.natAbs * q := by rw [← e]; exact Nat.dvd_mul_left _ _
    exact Nat.Coprime.dvd_of_dvd_mul_left (Nat.Coprime.symm c') this
  have hqq : q = q' := Nat.dvd_antisymm d1 d2
  subst hqq
  refine ⟨?_, rfl⟩
  have h0 : (q : Int) ≠ 0 := by omega
  exact Int.eq_of_mul_eq_mul_right h0 h

local macro_rules | `(tactic| walk_at "k.H") => `(tactic| first | assumption | exact upd_same _ _ _ | (exact upd_fresh (by assumption) (by walk_at "k.H")) | (exact (by walk_at "m.le" : Le _ _) _ _ (by assumption)))
local macro_rules | `(tactic| walk_at "m.le") => `(tactic| first | assumption | exact Le.refl _ | (refine Le.upd ?_ (by assumption); walk_at "m.le") | (refine Le.trans (by assumption) ?_; walk_at "m.le"))
local macro_rules | `(tactic| walk_at "k.K") => `(tactic| first | exact trivial | (simp only [arithOk]; omega) | (simp only [arithOk]; refine ⟨?_, ?_, ?_⟩ <;> omega))
local macro_rules | `(tactic| walk_at "k.B") => `(tactic| first | assumption | omega | (simp only [List.length_append, List.length_replicate, List.length_cons, List.length_nil, List.length_set]; omega))
local macro_rules | `(tactic| walk_at "k.R") => `(tactic| rfl)
local macro_rules | `(tactic| walk_at "k.E") => `(tactic| exact rfl)
local macro_rules | `(tactic| walk_at "k.I") => `(tactic| (intros; rfl))
local macro_rules | `(tactic| walk_at "k.O") => `(tactic| omega)
local macro_rules | `(tactic| walk_at "k.D") => `(tactic| decide)
local macro_rules | `(tactic| walk_at "k.L") => `(tactic| first | (left; omega) | (right; omega))
local macro_rules | `(tactic| walk_at "k.S") => `(tactic| (simp only [List.length_cons, List.length_nil]; omega))
-- a row of rules «name args|..»: the first that fits; each argument is one sign
local macro_rules | `(tactic| walk_at $s:str) => do
  unless s.getString.startsWith "rows " do Lean.Macro.throwUnsupported
  let mut alts := #[]
  for r in (s.getString.drop 5).toString.splitOn "|" do
    let ws := r.splitOn " "
    let mut args := #[]
    let mut cs := #[]
    let mut i := 0
    for c in (ws.getD 1 "").toList do
      i := i + 1
      let x := Lean.mkIdent (← Lean.MonadQuotation.addMacroScope (Lean.Name.mkSimple ("m" ++ toString i)))
      let k := Lean.Syntax.mkStrLit ("k." ++ (c.toUpper).toString)
      if c == '_' then args := args.push (← `(?_))
      else if c == 'a' then args := args.push (← `((by assumption)))
      else if c == 'h' then args := args.push (← `((Room.handled (by assumption))))
      else if c == 'k' then
        args := args.push (← `((envOk_mk ?$x:ident)))
        cs := cs.push (← `(tactic| case $x:ident => rfl))
      else if c == 'q' then
        args := args.push (← `((envOk_mk ?$x:ident)))
        cs := cs.push (← `(tactic| case' $x:ident => rfl))
      else
        args := args.push (← `(?$x:ident))
        cs := cs.push (← if c == 'r' then `(tactic| case' $x:ident => walk_at $k) else `(tactic| case $x:ident => walk_at $k))
    let f := Lean.mkIdent (`Mine ++ Lean.Name.mkSimple (ws.getD 0 ""))
    let mut t ← `(tactic| with_reducible refine' $f $args*)
    for c in cs do t ← `(tactic| ($t:tactic; $c:tactic))
    alts := alts.push (← `(Lean.Parser.Tactic.tacticSeq| $t:tactic))
  `(tactic| first $[| $alts]*)
-- one step of an expression
local macro_rules | `(tactic| walk_at "m.e") => `(tactic| walk_at "rows WE_Name kE_RR|WE_int _|WE_bool _|WE_none _|E_cut I_|E_item I_|E_len kaRR_|E_abs kaRR_|E_min kahRRR_|E_mulListL _|E_arith _|E_cmp R_|E_not _|E_neg _|E_and2 _|E_tuple _|E_list _|WS_nil _|WS_cons _r|T_cmp R_|WT_not _|WT_and2 _|WT_or2 _|T_value I_|WP_none _|P_some R_|arithK_add _|arithK_sub _|arithK_mul L_|arithK_shl1 O_|arithK_shl OO_|arithK_shr _|arithK_pow2 O_|arithK_mask O_|arithK_div OO_|arithK_mod O_|arithK_orHi OOO_|arithK_orLo OOO_|augK_orLo OOO_|E_bitlen RR_|augK_add _|augK_sub _|augK_shr _|augK_mod O_|augK K_|cmpK_lt _|cmpK_le _|cmpK_gt _|cmpK_ge _|cmpK_eq _|cmpK_ne _|cmpK_eqB _|cmpK_neB _|cmpK_isN _|boolK _|intK _|absK _|minK _|lenK HB_|itemK_tup HDDR_|itemK_last HBB_|itemK_nat HBB_|itemK_plus HBB_|itemK HBBB_|cutK_allI HB_|cutK_upto HBBB_|mulK_nat HB_|newK_nil _|newK_one _|newK S_|setK_nat HBB_|setK_plus HBB_|setK HBBB_|appK HB_|twoK H_|threeK H_")
-- one statement
local macro_rules | `(tactic| walk_at "m.ret") => `(tactic| ((with_reducible refine' R_start (ss := Stmt.Return _ _ :: _) ?_); (repeat (first | with_reducible refine' R_then ?_ | with_reducible refine' R_turn ?_)); (with_reducible refine' R_end ?_)))
local macro_rules | `(tactic| walk_at "m.x") => `(tactic| first | walk_at "rows then_next _|if_ff _|if_tt _|then_cont _|turn_next _|turn_cont _|X_Assign q_rr|X_swap2 khRRRR_|X_swap3 khRRRRR_|X_assign2 khRRRR_|X_setitem R_|X_aug kERR_|X_If _" | walk_at "m.ret" | walk_at "rows X_nil _|X_Continue _")

theorem defOk4 : DefOk (defAt 4) := ⟨by decide, by decide, rfl, rfl, rfl, fun vals _ _ _ _ _ h => by
  obtain ⟨a, rfl⟩ := len1 h
  rfl⟩

def SNormal : Spec := fun vs σ K => ∃ a ns, vs = [.ref a] ∧ σ a = some (LI ns) ∧ ns.length ≤ 900 ∧ RetL σ K (strip ns)

set_option maxHeartbeats 400000 in
theorem con_normal (C : Cx) : Con C 1 (defAt 4) SNormal := by
  refine Con.mk ["a"] rfl defOk4 (by decide) ?_
  rintro g L q a cd A vs σ Q G room ⟨l, ns, rfl, hl, hz, ret⟩
  refine ⟨rfl, ?_⟩
  ((conv in (dBody _) => whnf); (conv in (dScope _) => whnf); (try dsimp only [List.zip_cons_cons, List.zip_nil_left]))
  walk_at "m.x"
  repeat walk_at "m.e"
  refine X_While (fun k : Nat => k) (fun k => [(Str.ofString "a", V.ref l), (Str.ofString "end", V.int k)]) (fun k σ' => σ' = σ ∧ k ≤ ns.length ∧ strip (ns.take k) = strip ns) ns.length (by (repeat' first | (with_reducible exact Sub.refl _) | (with_reducible exact Sub.nil _) | (with_reducible refine' Sub.cons ?_ ?_) | rfl)) ⟨rfl, Nat.le_refl _, by simp⟩ ?_
  rintro k σ' ⟨rfl, hk, hs⟩
  repeat walk_at "m.e"
  refine if_dec (fun h => ?_) (fun h => ?_)
  · repeat walk_at "m.e"
    have e1 : ((k : Int) - 1).toNat = k - 1 := by omega
    rw [e1]
    refine if_dec (fun h2 => ?_) (fun h2 => ?_)
    · walk_at "m.x"
      repeat walk_at "m.e"
      walk_at "m.x"
      obtain ⟨j, rfl⟩ : ∃ j, k = j + 1 := ⟨k - 1, by omega⟩
      have e2 : ((j + 1 : Nat) : Int) - 1 = (j : Int) := by omega
      rw [e2]
      exact ⟨j, Nat.lt_succ_self _, by (repeat' first | (with_reducible exact Sub.refl _) | (with_reducible exact Sub.nil _) | (with_reducible refine' Sub.cons ?_ ?_) | rfl), rfl, by omega, strip_zero hk hs (by simpa using h2)⟩
    · walk_at "m.x"
      repeat walk_at "m.e"
      intro r hr
      refine ret r _ (Le.upd (Le.refl _) hr) hr ?_
      rw [upd_same]
      rw [Int.toNat_natCast, strip_take hk hs (.inr h2)]
  · show X _ _ _ _ _ _ _ _ _ _
    have hk0 : k = 0 := by omega
    walk_at "m.x"
    repeat walk_at "m.e"
    intro r hr
    refine ret r _ (Le.upd (Le.refl _) hr) hr ?_
    rw [upd_same]
    rw [Int.toNat_natCast, strip_take hk hs (.inl hk0)]


/-- the comparison of two numbers -/
def cmpN (x y : Nat) : Int := if x < y then -1 else if y < x then 1 else 0

theorem defOk5 : DefOk (defAt 5) := ⟨by decide, by decide, rfl, rfl, rfl, fun vals _ _ _ _ _ h => by
  obtain ⟨a, b, rfl⟩ := len2 h
  rfl⟩

theorem val_split (w : Nat) {xs : List Int} {k : Nat} (hk : k < xs.length) : val w xs = val w (xs.take k) + (2 ^ w) ^ k * (xs.getD k 0 + 2 ^ w * val w (xs.drop (k + 1))) := by
  have e : xs = xs.take k ++ (xs.getD k 0 :: xs.drop (k + 1)) := by
    have : xs.getD k 0 = xs[k] := by simp [List.getD, hk]
    rw [this, List.getElem_cons_drop, List.take_append_drop]
  have h := congrArg (val w) e
  rw [val_append, val, List.length_take, Nat.min_eq_left (by omega)] at h
  exact h
theorem val_lt_at {w : Nat} {xs ys : List Int} {k : Nat} (hx : Dig w xs) (hy : Dig w ys) (h1 : k < xs.length) (h2 : k < ys.length) (hd : xs.drop (k + 1) = ys.drop (k + 1)) (hlt : xs.getD k 0 < ys.getD k 0) :
    val w xs < val w ys := by
  rw [val_split w h1, val_split w h2, hd]
  have a := val_lt (hx.take k)
  have b := val_nonneg (hy.take k)
  rw [List.length_take, Nat.min_eq_left (by omega)] at a
  have c : ((2 : Int) ^ w) ^ k * (xs.getD k 0 + 2 ^ w * val w (ys.drop (k + 1)) + 1) ≤ (2 ^ w) ^ k * (ys.getD k 0 + 2 ^ w * val w (ys.drop (k + 1))) :=
    Int.mul_le_mul_of_nonneg_left (by omega) (Int.le_of_lt (Int.pow_pos (pw_pos w)))
  rw [Int.mul_add _ _ 1, Int.mul_one] at c
  omega

def SCompare : Spec := fun vs σ K => ∃ a b w x y, vs = [.ref a, .ref b] ∧ 1 ≤ w ∧ x < 2 ^ 64 ∧ y < 2 ^ 64 ∧ σ a = some (LI (limbs w x)) ∧ σ b = some (LI (limbs w y)) ∧ K (.int (cmpN x y)) σ

set_option maxHeartbeats 1000000 in
theorem con_compare (C : Cx) : Con C 1 (defAt 5) SCompare := by
  refine Con.mk ["a", "b"] rfl defOk5 (by decide) ?_
  rintro g L q a cd A vs σ Q G room ⟨la, lb, w, x, y, rfl, hw, hx, hy, ha, hb, ret⟩
  refine ⟨rfl, ?_⟩
  have lx := limbs_short hw hx
  have ly := limbs_short hw hy
  ((conv in (dBody _) => whnf); (conv in (dScope _) => whnf); (try dsimp only [List.zip_cons_cons, List.zip_nil_left]))
  walk_at "m.x"
  repeat walk_at "m.e"
  refine if_dec (fun h => ?_) (fun h => ?_)
  · walk_at "m.x"
    (with_reducible refine' WE_IfExp ?_)
    repeat walk_at "m.e"
    refine if_dec (fun h2 => ?_) (fun h2 => ?_)
    · repeat walk_at "m.e"
      have := limbs_len_lt hw (a := x) (b := y) (by omega)
      show Q (.int (-1)) σ
      rw [cmpN, if_pos this] at ret
      exact ret
    · repeat walk_at "m.e"
      have := limbs_len_lt hw (a := y) (b := x) (by omega)
      show Q (.int 1) σ
      rw [cmpN, if_neg (by omega), if_pos this] at ret
      exact ret
  · walk_at "m.x"
    show X _ _ _ _ _ _ _ _ _ _
    have hl : (limbs w x).length = (limbs w y).length := by omega
    refine X_ForDown (ι := Unit) (envOk_mk rfl) G room.handled (limbs w x).length (fun _ _ => [(Str.ofString "a", .ref la), (Str.ofString "b", .ref lb)]) (fun k _ σ' => σ' = σ ∧ (limbs w x).drop k = (limbs w y).drop k) ()
      rfl rfl rfl rfl (fun _ _ => rfl) (fun _ => rfl) (by omega) ?_ ?_ ?_
    · repeat walk_at "m.e"
      exact ⟨rfl, by (repeat' first | (with_reducible exact Sub.refl _) | (with_reducible exact Sub.nil _) | (with_reducible refine' Sub.cons ?_ ?_) | rfl), rfl, by simp [hl]⟩
    · rintro k _ σ' g' hk ⟨rfl, hd⟩ G'
      walk_at "m.x"
      repeat walk_at "m.e"
      refine if_dec (fun h2 => ?_) (fun h2 => ?_)
      · walk_at "m.x"
        repeat walk_at "m.e"
        have k1 : k < (limbs w x).length := hk
        have k2 : k < (limbs w y).length := by omega
        have dx := limbs_dig hw x
        have dy := limbs_dig hw y
        have vx := limbs_val hw x
        have vy := limbs_val hw y
        (with_reducible refine' WE_IfExp ?_)
        repeat walk_at "m.e"
        refine if_dec (fun h3 => ?_) (fun h3 => ?_)
        · repeat walk_at "m.e"
          have := val_lt_at dx dy k1 k2 hd h3
          show Q (.int (-1)) σ'
          rw [cmpN, if_pos (by omega)] at ret
          exact ret
        · repeat walk_at "m.e"
          have := val_lt_at dy dx k2 k1 hd.symm (by omega)
          show Q (.int 1) σ'
          rw [cmpN, if_neg (by omega), if_pos (by omega)] at ret
          exact ret
      · repeat walk_at "m.x"
        refine ⟨(), by (repeat' first | (with_reducible exact Sub.refl _) | (with_reducible exact Sub.nil _) | (with_reducible refine' Sub.cons ?_ ?_) | rfl), rfl, ?_⟩
        have k1 : k < (limbs w x).length := hk
        have k2 : k < (limbs w y).length := by omega
        rw [← List.getElem_cons_drop k1, ← List.getElem_cons_drop k2, hd]
        have h4 : (limbs w x).getD k 0 = (limbs w y).getD k 0 := Decidable.not_not.mp h2
        simp only [List.getD, List.getElem?_eq_getElem k1, List.getElem?_eq_getElem k2, Option.getD_some] at h4
        rw [h4]
    · rintro _ σ' ⟨rfl, hd⟩
      walk_at "m.x"
      repeat walk_at "m.e"
      have : x = y := limbs_inj hw (by simpa using hd)
      show Q (.int 0) σ'
      rw [cmpN, if_neg (by omega), if_neg (by omega)] at ret
      exact ret

theorem defOk6 : DefOk (defAt 6) := ⟨by decide, by decide, rfl, rfl, rfl, fun vals _ _ _ _ _ h => by
  obtain ⟨a, b, c, rfl⟩ := len3 h
  rfl⟩

def SAdd : Spec := fun vs σ K => ∃ a b w x y, vs = [.ref a, .ref b, .int ((w : Nat) : Int)] ∧ 1 ≤ w ∧ w ≤ 64 ∧ x < 2 ^ 64 ∧ y < 2 ^ 64 ∧ σ a = some (LI (limbs w x)) ∧ σ b = some (LI (limbs w y)) ∧ RetL σ K (limbs w (x + y))

/-- the turns of the two loops -/
theorem take_succ' {xs : List Int} {k : Nat} (hk : k < xs.length) : xs.take (k + 1) = xs.take k ++ [xs.getD k 0] := by
  rw [List.take_add_one, List.getElem?_eq_getElem hk]; simp [List.getD, hk]
theorem val_take_succ (w : Nat) {xs : List Int} {k : Nat} (hk : k < xs.length) : val w (xs.take (k + 1)) = val w (xs.take k) + (2 ^ w) ^ k * xs.getD k 0 := by
  rw [take_succ' hk, val_append, List.length_take, Nat.min_eq_left (by omega)]; simp [val]
theorem add_turn {w k : Nat} {found : List Int} {carry s t : Int} (hl : found.length = k) (hv : val w found + (2 ^ w) ^ k * carry = s) :
    val w (found ++ [(carry + t) % 2 ^ w]) + (2 ^ w) ^ (k + 1) * ((carry + t) / 2 ^ w) = s + (2 ^ w) ^ k * t := by
  rw [val_append, hl, Int.pow_succ]
  have := Int.emod_add_mul_ediv (carry + t) (2 ^ w)
  simp only [val]
  generalize (carry + t) % 2 ^ w = r at *
  generalize (carry + t) / 2 ^ w = q at *
  generalize (2 : Int) ^ w = B at *
  generalize B ^ k = P at *
  grind
theorem dig_snoc {w : Nat} {found : List Int} {c : Int} (h : Dig w found) : Dig w (found ++ [c % 2 ^ w]) :=
  h.append (Dig.cons (Int.emod_nonneg _ (by have := pw_pos w; omega)) (Int.emod_lt_of_pos _ (pw_pos w)) (Dig.nil w))
theorem carry_le {w : Nat} {c : Int} (h0 : 0 ≤ c) (h1 : c < 2 * 2 ^ w) : 0 ≤ c / 2 ^ w ∧ c / 2 ^ w ≤ 1 := by
  have hp := pw_pos w
  refine ⟨Int.ediv_nonneg h0 (by omega), ?_⟩
  have : c / 2 ^ w < 2 := Int.ediv_lt_of_lt_mul hp h1
  omega
/-- what has as many limbs as it must is normal -/
theorem nrm_of_big {w : Nat} {ns : List Int} (hd : Dig w ns) (h : ns ≠ [] → (2 ^ w) ^ (ns.length - 1) ≤ val w ns) : Nrm ns := by
  by_cases hn : ns = []
  · exact .inl hn
  · right
    intro h0
    have hlen : 0 < ns.length := List.length_pos_iff.mpr hn
    have hk : ns.length - 1 < ns.length := by omega
    have e := val_split w hk
    have e2 : ns.drop (ns.length - 1 + 1) = [] := List.drop_of_length_le (by omega)
    rw [h0, e2] at e
    have a := val_lt (hd.take (ns.length - 1))
    rw [List.length_take, Nat.min_eq_left (by omega)] at a
    have := h hn
    simp [val] at e
    omega
theorem limbs_eq_of {w : Nat} (hw : 1 ≤ w) {ns : List Int} {n : Nat} (hd : Dig w ns) (hn : Nrm ns) (hv : val w ns = n) : ns = limbs w n := by
  have := limbs_of hw hd hn
  rw [hv, Int.toNat_natCast] at this
  exact this.symm

set_option maxHeartbeats 2000000 in
theorem con_add (C : Cx) : Con C 1 (defAt 6) SAdd := by
  refine Con.mk ["a", "b", "w"] rfl defOk6 (by decide) ?_
  rintro g L q a cd A vs σ Q G room ⟨la, lb, w, x, y, rfl, hw, hw2, hx, hy, ha, hb, ret⟩
  refine ⟨rfl, ?_⟩
  have lx := limbs_short hw hx
  have ly := limbs_short hw hy
  ((conv in (dBody _) => whnf); (conv in (dScope _) => whnf); (try dsimp only [List.zip_cons_cons, List.zip_nil_left]))
  refine X_IfJoin (fun m₂ σ₂ => ∃ la' lb' x' y', Sub [(Str.ofString "a", .ref la'), (Str.ofString "b", .ref lb'), (Str.ofString "w", .int (w : Int))] m₂ ∧ Le σ σ₂ ∧ σ la' = some (LI (limbs w x')) ∧ σ lb' = some (LI (limbs w y')) ∧
    (limbs w y').length ≤ (limbs w x').length ∧ (limbs w x').length ≤ 64 ∧ x' + y' = x + y) ?_ ?_
  · repeat walk_at "m.e"
    refine if_dec (fun h => ?_) (fun h => ?_)
    · walk_at "m.x"
      repeat walk_at "m.e"
      intro t ht
      repeat walk_at "m.e"
      walk_at "m.x"
      exact ⟨rfl, lb, la, y, x, by (repeat' first | (with_reducible exact Sub.refl _) | (with_reducible exact Sub.nil _) | (with_reducible refine' Sub.cons ?_ ?_) | rfl), Le.upd (Le.refl _) ht, hb, ha, by omega, by omega, by omega⟩
    · walk_at "m.x"
      exact ⟨rfl, la, lb, x, y, by (repeat' first | (with_reducible exact Sub.refl _) | (with_reducible exact Sub.nil _) | (with_reducible refine' Sub.cons ?_ ?_) | rfl), Le.refl _, ha, hb, by omega, by omega, rfl⟩
  · rintro m₂ σ₂ ⟨pa, pb, u, v, hsub, hle, hpa, hpb, hlen, hlen2, huv⟩
    refine W_sub hsub ?_
    change X _ _ _ _ _ _ _ _ _ _
    clear hsub lx ly hx hy ha hb
    have hpa' := hle _ _ hpa
    have hpb' := hle _ _ hpb
    walk_at "m.x"
    repeat walk_at "m.e"
    intro f hf
    repeat walk_at "m.e"
    intro t ht
    repeat walk_at "m.e"
    have hfσ : σ f = none := le_none hle hf
    refine X_ForUp (ι := List Int × Int) (envOk_mk rfl) G room.handled 0 (limbs w v).length (Nat.zero_le _)
      (fun _ j => [(Str.ofString "a", .ref pa), (Str.ofString "b", .ref pb), (Str.ofString "w", .int (w : Int)), (Str.ofString "found", .ref f), (Str.ofString "carry", .int j.2), (Str.ofString "mask", .int (2 ^ w - 1))])
      (fun k j σ' => Le σ σ' ∧ σ' f = some (LI j.1) ∧ j.1.length = k ∧ Dig w j.1 ∧ 0 ≤ j.2 ∧ j.2 ≤ 1 ∧ val w j.1 + (2 ^ w) ^ k * j.2 = val w ((limbs w u).take k) + val w ((limbs w v).take k)) ([], 0)
      rfl rfl rfl rfl (fun _ _ => rfl) (fun _ => rfl) ?_ ?_ ?_
    · repeat walk_at "m.e"
      refine ⟨.one (by omega), by (repeat' first | (with_reducible exact Sub.refl _) | (with_reducible exact Sub.nil _) | (with_reducible refine' Sub.cons ?_ ?_) | rfl), Le.upd (Le.upd hle hfσ) (le_none (Le.upd hle hfσ) ht), by walk_at "k.H", rfl, Dig.nil w, Int.le_refl _, by decide, by simp [val]⟩
    · rintro k ⟨ns, c⟩ σ' g' - hk ⟨hle', hf', hlen', hd, h0, h1, hv⟩ G'
      dsimp only at hf' hlen' hd h0 h1 hv
      have dx := (limbs_dig hw u).getD k
      have dy := (limbs_dig hw v).getD k
      have hp := pw_pos w
      walk_at "m.x"
      repeat walk_at "m.e"
      refine X_appendI (a := f) (envOk_mk rfl) rfl ⟨_, hf'⟩ rfl rfl rfl rfl rfl rfl rfl rfl ?_
      repeat walk_at "m.e"
      walk_at "m.x"
      repeat walk_at "m.e"
      walk_at "m.x"
      walk_at "m.x"
      refine ⟨(_, _), by (repeat' first | (with_reducible exact Sub.refl _) | (with_reducible exact Sub.nil _) | (with_reducible refine' Sub.cons ?_ ?_) | rfl), ?_, by walk_at "k.H", by simp [hlen'], dig_snoc hd, (carry_le (by omega) (by omega)).1, (carry_le (by omega) (by omega)).2, ?_⟩
      · exact Le.upd hle' hfσ
      · rw [val_take_succ w (by omega : k < (limbs w u).length), val_take_succ w hk, add_turn hlen' hv]
        grind
    · rintro ⟨ns, c⟩ σ' ⟨hle', hf', hlen', hd, h0, h1, hv⟩
      rw [List.take_of_length_le (Nat.le_refl _)] at hv
      refine X_ForUp (ι := List Int × Int) (envOk_mk rfl) G room.handled (limbs w v).length (limbs w u).length hlen
        (fun _ j => [(Str.ofString "a", .ref pa), (Str.ofString "b", .ref pb), (Str.ofString "w", .int (w : Int)), (Str.ofString "found", .ref f), (Str.ofString "carry", .int j.2), (Str.ofString "mask", .int (2 ^ w - 1))])
        (fun k j σ' => Le σ σ' ∧ σ' f = some (LI j.1) ∧ j.1.length = k ∧ Dig w j.1 ∧ 0 ≤ j.2 ∧ j.2 ≤ 1 ∧ val w j.1 + (2 ^ w) ^ k * j.2 = val w ((limbs w u).take k) + val w (limbs w v)) (ns, c)
        rfl rfl rfl rfl (fun _ _ => rfl) (fun _ => rfl) ?_ ?_ ?_
      · repeat walk_at "m.e"
        exact ⟨.two (by omega) hlen, by (repeat' first | (with_reducible exact Sub.refl _) | (with_reducible exact Sub.nil _) | (with_reducible refine' Sub.cons ?_ ?_) | rfl), hle', hf', hlen', hd, h0, h1, hv⟩
      · clear hle' hf' hlen' hd h0 h1 hv
        rintro k ⟨ns, c⟩ σ' g' - hk ⟨hle', hf', hlen', hd, h0, h1, hv⟩ G'
        dsimp only at hf' hlen' hd h0 h1 hv
        have dx := (limbs_dig hw u).getD k
        have hp := pw_pos w
        walk_at "m.x"
        repeat walk_at "m.e"
        refine X_appendI (a := f) (envOk_mk rfl) rfl ⟨_, hf'⟩ rfl rfl rfl rfl rfl rfl rfl rfl ?_
        repeat walk_at "m.e"
        walk_at "m.x"
        repeat walk_at "m.e"
        walk_at "m.x"
        walk_at "m.x"
        refine ⟨(_, _), by (repeat' first | (with_reducible exact Sub.refl _) | (with_reducible exact Sub.nil _) | (with_reducible refine' Sub.cons ?_ ?_) | rfl), Le.upd hle' hfσ, by walk_at "k.H", by simp [hlen'], dig_snoc hd, (carry_le (by omega) (by omega)).1, (carry_le (by omega) (by omega)).2, ?_⟩
        rw [val_take_succ w hk, add_turn hlen' hv]
        grind
      · clear hle' hf' hlen' hd h0 h1 hv
        rintro ⟨ns, c⟩ σ' ⟨hle', hf', hlen', hd, h0, h1, hv⟩
        dsimp only at hf' hlen' hd h0 h1 hv
        rw [List.take_of_length_le (Nat.le_refl _), limbs_val hw, limbs_val hw] at hv
        have nb : 0 ≤ val w ns := val_nonneg hd
        walk_at "m.x"
        repeat walk_at "m.e"
        refine if_dec (fun h => ?_) (fun h => ?_)
        · refine X_appendI (a := f) (envOk_mk rfl) rfl ⟨_, hf'⟩ rfl rfl rfl rfl rfl rfl rfl rfl ?_
          repeat walk_at "m.e"
          repeat walk_at "m.x"
          repeat walk_at "m.e"
          refine ret f _ (Le.upd hle' hfσ) hfσ ?_
          rw [upd_same]
          have hc : c = 1 := by omega
          congr 2
          have hw2 := pw_ge2 hw
          refine limbs_eq_of hw (hd.append (Dig.cons (by omega) (by omega) (Dig.nil w))) (.inr ?_) ?_
          · simp [hc]
          · rw [val_append, hlen']
            simp only [val, Int.mul_zero, Int.add_zero]
            omega
        · repeat walk_at "m.x"
          repeat walk_at "m.e"
          refine ret f _ hle' hfσ ?_
          rw [hf']
          have hc : c = 0 := by omega
          congr 2
          subst hc
          simp only [Int.mul_zero, Int.add_zero] at hv
          refine limbs_eq_of hw hd (nrm_of_big hd fun hne => ?_) (by omega)
          have h3 : limbs w u ≠ [] := fun e => by rw [e] at hlen'; simp at hlen'; exact hne hlen'
          have h4 := val_ge (limbs_dig hw u) (limbs_nrm hw u) h3
          rw [limbs_val hw, ← hlen'] at h4
          omega

theorem defOk7 : DefOk (defAt 7) := ⟨by decide, by decide, rfl, rfl, rfl, fun vals _ _ _ _ _ h => by
  obtain ⟨a, b, c, rfl⟩ := len3 h
  rfl⟩

def SSub : Spec := fun vs σ K => ∃ a b w x y, vs = [.ref a, .ref b, .int ((w : Nat) : Int)] ∧ 1 ≤ w ∧ w ≤ 64 ∧ x < 2 ^ 64 ∧ y ≤ x ∧ σ a = some (LI (limbs w x)) ∧ σ b = some (LI (limbs w y)) ∧ RetL σ K (limbs w (x - y))

theorem val_take_succ' (w : Nat) (xs : List Int) (k : Nat) : val w (xs.take (k + 1)) = val w (xs.take k) + (2 ^ w) ^ k * xs.getD k 0 := by
  by_cases hk : k < xs.length
  · exact val_take_succ w hk
  · rw [List.take_of_length_le (by omega), List.take_of_length_le (by omega)]
    simp [List.getD, hk]
theorem sub_turn {w k : Nat} {found : List Int} {borrow s t l : Int} (hl : found.length = k) (hv : val w found - (2 ^ w) ^ k * borrow = s) (b' : Int) (hd : l = t - borrow + 2 ^ w * b') :
    val w (found ++ [l]) - (2 ^ w) ^ (k + 1) * b' = s + (2 ^ w) ^ k * t := by
  rw [val_append, hl, Int.pow_succ]
  simp only [val]
  generalize (2 : Int) ^ w = B at *
  generalize B ^ k = P at *
  grind

theorem strip_of {w : Nat} (hw : 1 ≤ w) {ns : List Int} {n : Nat} (hd : Dig w ns) (hv : val w ns = n) : strip ns = limbs w n := by
  rw [strip_limbs hw hd, hv, Int.toNat_natCast]

set_option maxHeartbeats 2000000 in
theorem con_sub (C : Cx) : Con C 2 (defAt 7) SSub := by
  refine Con.mk ["a", "b", "w"] rfl defOk7 (by decide) ?_
  rintro g L q a cd A vs σ Q G room ⟨la, lb, w, x, y, rfl, hw, hw2, hx, hyx, ha, hb, ret⟩
  refine ⟨rfl, ?_⟩
  have lx := limbs_short hw hx
  have ly := limbs_short hw (show y < 2 ^ 64 by omega)
  ((conv in (dBody _) => whnf); (conv in (dScope _) => whnf); (try dsimp only [List.zip_cons_cons, List.zip_nil_left]))
  walk_at "m.x"
  walk_at "m.e"
  refine WE_callG (k := 5) (con_compare C) (envOk_mk rfl) G (room.less (by decide)) (by decide) rfl ?_ rfl rfl rfl
  repeat walk_at "m.e"
  refine ⟨la, lb, w, x, y, rfl, hw, hx, by omega, ha, hb, ?_⟩
  repeat walk_at "m.e"
  refine if_dec (fun h => ?_) (fun h => ?_)
  · exfalso
    rw [cmpN, if_neg (by omega)] at h
    split at h <;> omega
  walk_at "m.x"
  walk_at "m.x"
  walk_at "m.x"
  repeat walk_at "m.e"
  intro f hf
  repeat walk_at "m.e"
  intro t ht
  repeat walk_at "m.e"
  refine X_ForUp (ι := List Int × Int) (envOk_mk rfl) G room.handled 0 (limbs w x).length (Nat.zero_le _)
    (fun _ j => [(Str.ofString "a", .ref la), (Str.ofString "b", .ref lb), (Str.ofString "w", .int (w : Int)), (Str.ofString "found", .ref f), (Str.ofString "borrow", .int j.2), (Str.ofString "base", .int (2 ^ w))])
    (fun k j σ' => Le σ σ' ∧ σ' f = some (LI j.1) ∧ j.1.length = k ∧ Dig w j.1 ∧ 0 ≤ j.2 ∧ j.2 ≤ 1 ∧ val w j.1 - (2 ^ w) ^ k * j.2 = val w ((limbs w x).take k) - val w ((limbs w y).take k)) ([], 0)
    rfl rfl rfl rfl (fun _ _ => rfl) (fun _ => rfl) ?_ ?_ ?_
  · repeat walk_at "m.e"
    exact ⟨.one (by omega), by (repeat' first | (with_reducible exact Sub.refl _) | (with_reducible exact Sub.nil _) | (with_reducible refine' Sub.cons ?_ ?_) | rfl), Le.upd (Le.upd (Le.refl _) hf) (le_none (Le.upd (Le.refl _) hf) ht), by walk_at "k.H", rfl, Dig.nil w, Int.le_refl _, by decide, by simp [val]⟩
  · rintro k ⟨ns, c⟩ σ' g' - hk ⟨hle', hf', hlen', hd, h0, h1, hv⟩ G'
    dsimp only at hf' hlen' hd h0 h1 hv
    have dx := (limbs_dig hw x).getD k
    have dy := (limbs_dig hw y).getD k
    have hp := pw_pos w
    walk_at "m.x"
    repeat walk_at "m.e"
    refine WE_is (.int ((limbs w y).getD k 0)) ?_ ?_
    · (with_reducible refine' WE_IfExp ?_)
      repeat walk_at "m.e"
      refine if_dec (fun h => ?_) (fun h => ?_)
      · repeat walk_at "m.e"
        exact ⟨rfl, rfl, rfl⟩
      · repeat walk_at "m.e"
        refine ⟨?_, rfl, rfl⟩
        have h' : (limbs w y).length ≤ k := by omega
        simp [List.getD, h']
    repeat walk_at "m.e"
    generalize hl : (limbs w x).getD k 0 - c - (limbs w y).getD k 0 = l
    walk_at "m.x"
    obtain ⟨c', ec⟩ : ∃ c' : Int, c' = if l < 0 then 1 else 0 := ⟨_, rfl⟩
    obtain ⟨l', el⟩ : ∃ l' : Int, l' = if l < 0 then l + 2 ^ w else l := ⟨_, rfl⟩
    refine WE_is (.int c') ?_ ?_
    · (with_reducible refine' WE_IfExp ?_)
      repeat walk_at "m.e"
      refine if_dec (fun h => ?_) (fun h => ?_)
      · repeat walk_at "m.e"
        exact ⟨by rw [ec, if_pos h], rfl, rfl⟩
      · repeat walk_at "m.e"
        exact ⟨by rw [ec, if_neg h], rfl, rfl⟩
    refine X_appendI (a := f) (envOk_mk rfl) rfl ⟨_, hf'⟩ rfl rfl rfl rfl rfl rfl rfl rfl ?_
    refine WE_is (.int l') ?_ ?_
    · (with_reducible refine' WE_IfExp ?_)
      repeat walk_at "m.e"
      refine if_dec (fun h => ?_) (fun h => ?_)
      · repeat walk_at "m.e"
        exact ⟨by rw [el, if_pos h], rfl, rfl⟩
      · repeat walk_at "m.e"
        exact ⟨by rw [el, if_neg h], rfl, rfl⟩
    repeat walk_at "m.e"
    walk_at "m.x"
    walk_at "m.x"
    have hl' : 0 ≤ l' ∧ l' < 2 ^ w ∧ 0 ≤ c' ∧ c' ≤ 1 ∧ l' = l + 2 ^ w * c' := by
      by_cases h : l < 0
      · rw [if_pos h] at ec el; subst ec el; omega
      · rw [if_neg h] at ec el; subst ec el; omega
    refine ⟨(_, _), by (repeat' first | (with_reducible exact Sub.refl _) | (with_reducible exact Sub.nil _) | (with_reducible refine' Sub.cons ?_ ?_) | rfl), Le.upd hle' hf, by walk_at "k.H", by simp [hlen'], hd.append (Dig.cons hl'.1 hl'.2.1 (Dig.nil w)), hl'.2.2.1, hl'.2.2.2.1, ?_⟩
    rw [val_take_succ' w (limbs w x), val_take_succ' w (limbs w y), sub_turn (t := (limbs w x).getD k 0 - (limbs w y).getD k 0) hlen' hv]
    · grind
    · have := hl'.2.2.2.2; dsimp only; omega
  · rintro ⟨ns, c⟩ σ' ⟨hle', hf', hlen', hd, h0, h1, hv⟩
    dsimp only at hf' hlen' hd h0 h1 hv
    rw [List.take_of_length_le (Nat.le_refl _), List.take_of_length_le, limbs_val hw, limbs_val hw] at hv
    · walk_at "m.x"
      refine WE_callG (k := 4) (con_normal C) (envOk_mk rfl) G room (by decide) rfl ?_ rfl rfl rfl
      repeat walk_at "m.e"
      refine ⟨f, ns, rfl, hf', by omega, ?_⟩
      have vn := val_nonneg hd
      have vl := val_lt hd
      rw [hlen'] at vl
      have hc : c = 0 := by
        by_cases hc : c = 1
        · subst hc; omega
        · omega
      subst hc
      rw [strip_of hw (n := x - y) hd (by omega)]
      exact ret.up hle'
    · by_cases hlt : (limbs w x).length < (limbs w y).length
      · have := limbs_len_lt hw hlt; omega
      · omega

theorem defOk8 : DefOk (defAt 8) := ⟨by decide, by decide, rfl, rfl, rfl, fun vals _ _ _ _ _ h => by
  obtain ⟨a, b, c, rfl⟩ := len3 h
  rfl⟩

def SDivremLimb : Spec := fun vs σ K => ∃ a w x d, vs = [.ref a, .int ((d : Nat) : Int), .int ((w : Nat) : Int)] ∧ 1 ≤ w ∧ w ≤ 60 ∧ x < 2 ^ 64 ∧ 0 < d ∧ d < 2 ^ w ∧ σ a = some (LI (limbs w x)) ∧
  ∀ t r σ', Le σ σ' → σ' t = some (.tup [.ref r, .int ((x % d : Nat) : Int)]) → σ' r = some (LI (limbs w (x / d))) → K (.ref t) σ'

theorem drop_set {ns : List Int} {k : Nat} {q : Int} (hk : k < ns.length) : (ns.set k q).drop k = q :: ns.drop (k + 1) := by
  rw [List.drop_eq_getElem_cons (by simpa using hk)]
  congr 1
  · simp
  · rw [List.drop_set]; simp
theorem drop_getD {xs : List Int} {k : Nat} (hk : k < xs.length) : xs.drop k = xs.getD k 0 :: xs.drop (k + 1) := by
  rw [List.drop_eq_getElem_cons hk]; simp [List.getD, hk]

theorem div_turn {w : Nat} {d rest v s x : Int} (hd : 0 < d) (hv : v * d + rest = s) : ((rest * 2 ^ w + x) / d + 2 ^ w * v) * d + (rest * 2 ^ w + x) % d = x + 2 ^ w * s := by
  have := Int.emod_add_mul_ediv (rest * 2 ^ w + x) d
  generalize (rest * 2 ^ w + x) % d = r at *
  generalize (rest * 2 ^ w + x) / d = q at *
  generalize (2 : Int) ^ w = B at *
  grind

theorem pw_lt64 {w : Nat} (hw : w ≤ 60) : (2 : Int) ^ w ≤ 2 ^ 60 := by
  rw [← pw_nat, ← pw_nat]
  exact Int.ofNat_le.mpr (Nat.pow_le_pow_right (by decide) hw)

set_option maxHeartbeats 2000000 in
theorem con_divrem_limb (C : Cx) : Con C 2 (defAt 8) SDivremLimb := by
  refine Con.mk ["a", "limb", "w"] rfl defOk8 (by decide) ?_
  rintro g L q a cd A vs σ Q G room ⟨la, w, x, d, rfl, hw, hw2, hx, hd0, hd1, ha, ret⟩
  refine ⟨rfl, ?_⟩
  have lx := limbs_short hw hx
  have hp := pw_pos w
  have hp60 := pw_lt64 hw2
  have hdB : (d : Int) < 2 ^ w := by rw [← pw_nat]; exact Int.ofNat_lt.mpr hd1
  ((conv in (dBody _) => whnf); (conv in (dScope _) => whnf); (try dsimp only [List.zip_cons_cons, List.zip_nil_left]))
  walk_at "m.x"
  repeat walk_at "m.e"
  refine if_dec (fun h => ?_) (fun h => ?_)
  · exfalso; omega
  walk_at "m.x"
  walk_at "m.x"
  walk_at "m.x"
  repeat walk_at "m.e"
  intro z hz
  repeat walk_at "m.e"
  intro f hf
  repeat walk_at "m.e"
  intro t ht
  repeat walk_at "m.e"
  have le0 : Le σ (upd σ z (LI [0])) := Le.upd (Le.refl _) hz
  have hfσ : σ f = none := le_none le0 hf
  have le1 := Le.upd (o := LI (List.replicate (limbs w x).length 0)) le0 hfσ
  have le2 := Le.upd (o := .tup [.ref f, .int 0]) le1 (le_none le1 ht)
  refine X_ForDown (ι := List Int × Int) (envOk_mk rfl) G room.handled (limbs w x).length
    (fun _ j => [(Str.ofString "a", .ref la), (Str.ofString "limb", .int (d : Int)), (Str.ofString "w", .int (w : Int)), (Str.ofString "found", .ref f), (Str.ofString "rest", .int j.2)])
    (fun k j σ' => Le σ σ' ∧ σ' f = some (LI j.1) ∧ j.1.length = (limbs w x).length ∧ Dig w j.1 ∧ 0 ≤ j.2 ∧ j.2 < d ∧ val w (j.1.drop k) * d + j.2 = val w ((limbs w x).drop k)) (List.replicate (limbs w x).length 0, 0)
    rfl rfl rfl rfl (fun _ _ => rfl) (fun _ => rfl) (by omega) ?_ ?_ ?_
  · repeat walk_at "m.e"
    refine ⟨rfl, by (repeat' first | (with_reducible exact Sub.refl _) | (with_reducible exact Sub.nil _) | (with_reducible refine' Sub.cons ?_ ?_) | rfl), le2, by walk_at "k.H", by simp, Dig.zeros w _, Int.le_refl _, by omega, ?_⟩
    rw [List.drop_of_length_le (by simp), List.drop_of_length_le (by simp)]; simp [val]
  · rintro k ⟨ns, r⟩ σ' g' hk ⟨hle', hf', hlen', hd, h0, h1, hv⟩ G'
    dsimp only at hf' hlen' hd h0 h1 hv
    have dx := (limbs_dig hw x).getD k
    walk_at "m.x"
    repeat walk_at "m.e"
    walk_at "m.x"
    repeat walk_at "m.e"
    walk_at "m.x"
    repeat walk_at "m.e"
    walk_at "m.x"
    walk_at "m.x"
    have hmul : r * 2 ^ w ≤ (d - 1) * 2 ^ w := Int.mul_le_mul_of_nonneg_right (by omega) (by omega)
    have hr0 : 0 ≤ r * 2 ^ w := Int.mul_nonneg h0 (by omega)
    have hlt : r * 2 ^ w + (limbs w x).getD k 0 < 2 ^ w * d := by
      rw [Int.sub_mul, Int.one_mul, Int.mul_comm (d : Int)] at hmul
      omega
    refine ⟨(_, _), by (repeat' first | (with_reducible exact Sub.refl _) | (with_reducible exact Sub.nil _) | (with_reducible refine' Sub.cons ?_ ?_) | rfl), Le.upd hle' hfσ, by walk_at "k.H", by simpa using hlen', hd.set k (Int.ediv_nonneg (by omega) (by omega)) (Int.ediv_lt_of_lt_mul (by omega) hlt), Int.emod_nonneg _ (by omega), Int.emod_lt_of_pos _ (by omega), ?_⟩
    rw [drop_set (by omega), drop_getD hk, val, val, div_turn (by omega) hv]
  · rintro ⟨ns, r⟩ σ' ⟨hle', hf', hlen', hd, h0, h1, hv⟩
    dsimp only at hf' hlen' hd h0 h1 hv
    rw [List.drop_zero, List.drop_zero, limbs_val hw] at hv
    have vn := val_nonneg hd
    walk_at "m.x"
    repeat walk_at "m.e"
    refine WE_callG (k := 4) (con_normal C) (envOk_mk rfl) G room (by decide) rfl ?_ rfl rfl rfl
    repeat walk_at "m.e"
    refine ⟨f, ns, rfl, hf', by omega, ?_⟩
    intro q' σ'' hle'' hq hq'
    repeat walk_at "m.e"
    intro t' ht'
    obtain ⟨vq, hvq⟩ := Int.eq_ofNat_of_zero_le vn
    obtain ⟨rr, hrr⟩ := Int.eq_ofNat_of_zero_le h0
    have hvN : vq * d + rr = x := by
      rw [hvq, hrr] at hv
      exact_mod_cast hv
    have hq1 : x / d = vq := by
      rw [← hvN, Nat.mul_comm, Nat.mul_add_div hd0, Nat.div_eq_of_lt (by omega)]; omega
    have hq2 : x % d = rr := by
      rw [← hvN, Nat.mul_comm, Nat.mul_add_mod, Nat.mod_eq_of_lt (by omega)]
    refine ret t' q' _ (Le.upd (hle'.trans hle'') (le_none (hle'.trans hle'') ht')) ?_ ?_
    · rw [upd_same, hrr, hq2]
    · rw [upd_fresh ht' hq', strip_of hw hd hvq, hq1]

theorem defOk9 : DefOk (defAt 9) := ⟨by decide, by decide, rfl, rfl, rfl, fun vals _ _ _ _ _ h => by
  obtain ⟨a, b, c, rfl⟩ := len3 h
  rfl⟩
theorem defOk10 : DefOk (defAt 10) := ⟨by decide, by decide, rfl, rfl, rfl, fun vals _ _ _ _ _ h => by
  obtain ⟨a, b, c, rfl⟩ := len3 h
  rfl⟩
theorem defOk11 : DefOk (defAt 11) := ⟨by decide, by decide, rfl, rfl, rfl, fun vals _ _ _ _ _ h => by
  obtain ⟨a, b, rfl⟩ := len2 h
  rfl⟩

def SShiftLeft : Spec := fun vs σ K => ∃ a w x n, vs = [.ref a, .int ((n : Nat) : Int), .int ((w : Nat) : Int)] ∧ 1 ≤ w ∧ w ≤ 30 ∧ x < 2 ^ 64 ∧ n < w ∧ σ a = some (LI (limbs w x)) ∧ RetL σ K (limbs w (x * 2 ^ n))
def SShiftRight : Spec := fun vs σ K => ∃ a w x n, vs = [.ref a, .int ((n : Nat) : Int), .int ((w : Nat) : Int)] ∧ 1 ≤ w ∧ w ≤ 30 ∧ x < 2 ^ 100 ∧ n < w ∧ σ a = some (LI (limbs w x)) ∧ RetL σ K (limbs w (x / 2 ^ n))
def SBits : Spec := fun vs σ K => ∃ a b w, vs = [.ref a, .int w] ∧ σ a = some (LI [b]) ∧ K (.int (Builtin.Int.intBits b)) σ

theorem shl_turn {w k : Nat} {found : List Int} {carry s t F : Int} (hl : found.length = k) (hv : val w found + (2 ^ w) ^ k * carry = s * F) :
    val w (found ++ [(carry + t * F) % 2 ^ w]) + (2 ^ w) ^ (k + 1) * ((carry + t * F) / 2 ^ w) = (s + (2 ^ w) ^ k * t) * F := by
  rw [add_turn hl hv]; grind

theorem pw_split {w n : Nat} (h : n ≤ w) : (2 : Int) ^ w = 2 ^ n * 2 ^ (w - n) := by
  rw [← Int.pow_add]; congr 1; omega

set_option maxHeartbeats 2000000 in
theorem con_shift_left (C : Cx) : Con C 1 (defAt 9) SShiftLeft := by
  refine Con.mk ["a", "n", "w"] rfl defOk9 (by decide) ?_
  rintro g L q a cd A vs σ Q G room ⟨la, w, x, n, rfl, hw, hw2, hx, hn, ha, ret⟩
  refine ⟨rfl, ?_⟩
  have lx := limbs_short hw hx
  have hp := pw_pos w
  have hpn := pw_pos n
  have hp60 := pw_lt64 (show w ≤ 60 by omega)
  ((conv in (dBody _) => whnf); (conv in (dScope _) => whnf); (try dsimp only [List.zip_cons_cons, List.zip_nil_left]))
  walk_at "m.x"
  repeat walk_at "m.e"
  refine if_dec (fun h => ?_) (fun h => ?_)
  · walk_at "m.x"
    repeat walk_at "m.e"
    intro r hr
    have : x = 0 := (limbs_nil hw).mp (List.length_eq_zero_iff.mp (by omega))
    subst this
    rw [Nat.zero_mul] at ret
    exact ret r _ (Le.upd (Le.refl _) hr) hr (upd_same _ _ _)
  repeat walk_at "m.x"
  repeat walk_at "m.e"
  intro t ht
  repeat walk_at "m.e"
  have e1 : (n : Int) / (w : Int) = ((0 : Nat) : Int) := Int.ediv_eq_zero_of_lt (by omega) (by omega)
  have e2 : (n : Int) % (w : Int) = (n : Int) := Int.emod_eq_of_lt (by omega) (by omega)
  rw [e1, e2]
  walk_at "m.x"
  repeat walk_at "m.e"
  intro z hz
  repeat walk_at "m.e"
  intro f hf
  repeat walk_at "m.e"
  intro t' ht'
  repeat walk_at "m.e"
  have le0 := Le.upd (o := .tup [.int ((0 : Nat) : Int), .int (n : Int)]) (Le.refl σ) ht
  have le1 := Le.upd (o := LI [0]) le0 (le_none le0 hz)
  have hfσ : σ f = none := le_none le1 hf
  have le2 := Le.upd (o := LI (List.replicate 0 0)) le1 hfσ
  have le3 := Le.upd (o := .tup [.ref f, .int 0, .int (2 ^ w - 1)]) le2 (le_none le2 ht')
  refine X_ForListI (ι := List Int × Int) (envOk_mk rfl) G room.handled la (limbs w x)
    (fun _ j => [(Str.ofString "w", .int (w : Int)), (Str.ofString "few", .int (n : Int)), (Str.ofString "found", .ref f), (Str.ofString "carry", .int j.2), (Str.ofString "mask", .int (2 ^ w - 1))])
    (fun k j σ' => Le σ σ' ∧ σ' f = some (LI j.1) ∧ j.1.length = k ∧ Dig w j.1 ∧ 0 ≤ j.2 ∧ j.2 < 2 ^ n ∧ val w j.1 + (2 ^ w) ^ k * j.2 = val w ((limbs w x).take k) * 2 ^ n) ([], 0)
    rfl (fun _ _ => rfl) (fun _ => rfl) ?_ ?_ ?_ ?_
  · repeat walk_at "m.e"
    refine ⟨rfl, by (repeat' first | (with_reducible exact Sub.refl _) | (with_reducible exact Sub.nil _) | (with_reducible refine' Sub.cons ?_ ?_) | rfl), le3, by walk_at "k.H", rfl, Dig.nil w, Int.le_refl _, hpn, by simp [val]⟩
  · rintro k ⟨ns, c⟩ σ' ⟨hle', _⟩
    exact hle' _ _ ha
  · rintro k ⟨ns, c⟩ σ' g' hk ⟨hle', hf', hlen', hd, h0, h1, hv⟩ G'
    dsimp only at hf' hlen' hd h0 h1 hv
    have dx := (limbs_dig hw x).getD k
    walk_at "m.x"
    repeat walk_at "m.e"
    refine X_appendI (a := f) (envOk_mk rfl) rfl ⟨_, hf'⟩ rfl rfl rfl rfl rfl rfl rfl rfl ?_
    have hm0 : 0 ≤ (limbs w x).getD k 0 * 2 ^ n := Int.mul_nonneg dx.1 (by omega)
    have hm1 : (limbs w x).getD k 0 * 2 ^ n ≤ (2 ^ w - 1) * 2 ^ n := Int.mul_le_mul_of_nonneg_right (by omega) (by omega)
    repeat walk_at "m.e"
    walk_at "m.x"
    repeat walk_at "m.e"
    walk_at "m.x"
    walk_at "m.x"
    refine ⟨(_, _), by (repeat' first | (with_reducible exact Sub.refl _) | (with_reducible exact Sub.nil _) | (with_reducible refine' Sub.cons ?_ ?_) | rfl), Le.upd hle' hfσ, by walk_at "k.H", by simp [hlen'], dig_snoc hd, Int.ediv_nonneg (by omega) (by omega), Int.ediv_lt_of_lt_mul hp ?_, ?_⟩
    · rw [Int.sub_mul, Int.one_mul] at hm1
      have e : (2 : Int) ^ w * 2 ^ n = 2 ^ n * 2 ^ w := Int.mul_comm _ _
      omega
    · rw [val_take_succ w hk, shl_turn hlen' hv]
  · rintro ⟨ns, c⟩ σ' ⟨hle', hf', hlen', hd, h0, h1, hv⟩
    dsimp only at hf' hlen' hd h0 h1 hv
    rw [List.take_of_length_le (Nat.le_refl _), limbs_val hw] at hv
    have hpB : (2 : Int) ^ n ≤ 2 ^ w := by
      have := pw_split (show n ≤ w by omega)
      have h2 : 1 ≤ (2 : Int) ^ (w - n) := by have := pw_pos (w - n); omega
      have := Int.mul_le_mul_of_nonneg_left h2 (Int.le_of_lt hpn)
      omega
    have hxn : ((x * 2 ^ n : Nat) : Int) = (x : Int) * 2 ^ n := by push_cast; rfl
    walk_at "m.x"
    repeat walk_at "m.e"
    refine if_dec (fun h => ?_) (fun h => ?_)
    · refine X_appendI (a := f) (envOk_mk rfl) rfl ⟨_, hf'⟩ rfl rfl rfl rfl rfl rfl rfl rfl ?_
      repeat walk_at "m.e"
      repeat walk_at "m.x"
      repeat walk_at "m.e"
      refine ret f _ (Le.upd hle' hfσ) hfσ ?_
      rw [upd_same]
      congr 2
      refine limbs_eq_of hw (hd.append (Dig.cons h0 (by omega) (Dig.nil w))) (.inr ?_) ?_
      · simp; omega
      · rw [val_append, hlen', hxn]
        simp only [val, Int.mul_zero, Int.add_zero]
        exact hv
    · repeat walk_at "m.x"
      repeat walk_at "m.e"
      refine ret f _ hle' hfσ ?_
      rw [hf']
      have hc : c = 0 := by omega
      congr 2
      subst hc
      simp only [Int.mul_zero, Int.add_zero] at hv
      refine limbs_eq_of hw hd (nrm_of_big hd fun hne => ?_) (by rw [hxn]; exact hv)
      have h3 : limbs w x ≠ [] := fun e => by rw [e] at hlen'; simp at hlen'; exact hne hlen'
      have h4 := val_ge (limbs_dig hw x) (limbs_nrm hw x) h3
      rw [limbs_val hw, ← hlen'] at h4
      rw [hv]
      have h5 : (x : Int) * 1 ≤ x * 2 ^ n := Int.mul_le_mul_of_nonneg_left (by omega) (by omega)
      omega

theorem con_bits (C : Cx) : Con C 1 (defAt 11) SBits := by
  refine Con.mk ["a", "w"] rfl defOk11 (by decide) ?_
  rintro g L q a cd A vs σ Q G room ⟨la, b, w, rfl, ha, ret⟩
  refine ⟨rfl, ?_⟩
  ((conv in (dBody _) => whnf); (conv in (dScope _) => whnf); (try dsimp only [List.zip_cons_cons, List.zip_nil_left]))
  walk_at "m.x"
  (with_reducible refine' WE_IfExp ?_)
  repeat walk_at "m.e"
  refine if_dec (fun h => ?_) (fun h => ?_)
  · repeat walk_at "m.e"
    have e : (([b].length : Nat) : Int) - 1 = 0 := by simp
    rw [e]
    repeat walk_at "m.e"
    have e3 : [b].getD ([b].length - 1) 0 = b := rfl
    have e2 : (0 : Int) * w + Builtin.Int.intBits b = Builtin.Int.intBits b := by omega
    rw [e3, e2]
    exact ret
  · exfalso; simp at h

set_option maxHeartbeats 2000000 in
theorem con_shift_right (C : Cx) : Con C 2 (defAt 10) SShiftRight := by
  refine Con.mk ["a", "n", "w"] rfl defOk10 (by decide) ?_
  rintro g L q a cd A vs σ Q G room ⟨la, w, x, n, rfl, hw, hw2, hx, hn, ha, ret⟩
  refine ⟨rfl, ?_⟩
  have lx := limbs_short2 hw hx
  have hp := pw_pos w
  have hpn := pw_pos n
  have hpm := pw_pos (w - n)
  have hp60 := pw_lt64 (show w ≤ 60 by omega)
  have hsp := pw_split (show n ≤ w by omega)
  ((conv in (dBody _) => whnf); (conv in (dScope _) => whnf); (try dsimp only [List.zip_cons_cons, List.zip_nil_left]))
  walk_at "m.x"
  repeat walk_at "m.e"
  intro t ht
  repeat walk_at "m.e"
  have e1 : (n : Int) / (w : Int) = ((0 : Nat) : Int) := Int.ediv_eq_zero_of_lt (by omega) (by omega)
  have e2 : (n : Int) % (w : Int) = (n : Int) := Int.emod_eq_of_lt (by omega) (by omega)
  rw [e1, e2]
  walk_at "m.x"
  repeat walk_at "m.e"
  intro f hf
  repeat walk_at "m.e"
  intro t' ht'
  repeat walk_at "m.e"
  have le0 := Le.upd (o := .tup [.int ((0 : Nat) : Int), .int (n : Int)]) (Le.refl σ) ht
  have hfσ : σ f = none := le_none le0 hf
  have le2 := Le.upd (o := LI []) le0 hfσ
  have le3 := Le.upd (o := .tup [.ref f, .int (2 ^ w - 1)]) le2 (le_none le2 ht')
  refine X_ForUp (ι := List Int) (envOk_mk rfl) G room.handled 0 (limbs w x).length (Nat.zero_le _)
    (fun _ j => [(Str.ofString "a", .ref la), (Str.ofString "w", .int (w : Int)), (Str.ofString "few", .int (n : Int)), (Str.ofString "found", .ref f), (Str.ofString "mask", .int (2 ^ w - 1))])
    (fun k j σ' => Le σ σ' ∧ σ' f = some (LI j) ∧ j.length = k ∧ Dig w j ∧ val w j * 2 ^ n + (limbs w x).getD 0 0 % 2 ^ n = val w ((limbs w x).take k) + (2 ^ w) ^ k * ((limbs w x).getD k 0 % 2 ^ n)) []
    rfl rfl rfl rfl (fun _ _ => rfl) (fun _ => rfl) ?_ ?_ ?_
  · repeat walk_at "m.e"
    refine ⟨by have := UpIs.two (lo := 0) (hi := (limbs w x).length) (by omega) (by omega); exact this, by (repeat' first | (with_reducible exact Sub.refl _) | (with_reducible exact Sub.nil _) | (with_reducible refine' Sub.cons ?_ ?_) | rfl), le3, by walk_at "k.H", rfl, Dig.nil w, by simp [val]⟩
  · rintro k ns σ' g' - hk ⟨hle', hf', hlen', hd, hv⟩ G'
    have dx := (limbs_dig hw x).getD k
    have dy := (limbs_dig hw x).getD (k + 1)
    walk_at "m.x"
    refine WE_is (.int ((limbs w x).getD (k + 1) 0)) ?_ ?_
    · (with_reducible refine' WE_IfExp ?_)
      repeat walk_at "m.e"
      refine if_dec (fun h => ?_) (fun h => ?_)
      · have e3 : (k : Int) + 1 = ((k + 1 : Nat) : Int) := by omega
        walk_at "m.e"
        walk_at "m.e"
        walk_at "m.e"
        walk_at "m.e"
        walk_at "m.e"
        walk_at "m.e"
        rw [e3]
        repeat walk_at "m.e"
        exact ⟨rfl, rfl, rfl⟩
      · repeat walk_at "m.e"
        refine ⟨?_, rfl, rfl⟩
        have h' : (limbs w x).length ≤ k + 1 := by omega
        simp [List.getD, h']
    generalize hx0 : (limbs w x).getD k 0 = a0 at *
    generalize hx1 : (limbs w x).getD (k + 1) 0 = a1 at *
    refine X_appendI (a := f) (envOk_mk rfl) rfl ⟨_, hf'⟩ rfl rfl rfl rfl rfl rfl rfl rfl ?_
    repeat walk_at "m.e"
    have e4 : (w : Int) - (n : Int) = ((w - n : Nat) : Int) := by omega
    rw [e4, hx0]
    have hy0 : 0 ≤ a0 / 2 ^ n := Int.ediv_nonneg dx.1 (by omega)
    have hy1 : a0 / 2 ^ n < 2 ^ (w - n) := Int.ediv_lt_of_lt_mul hpn (by rw [Int.mul_comm, ← hsp]; exact dx.2)
    have hm0 : 0 ≤ a1 * 2 ^ (w - n) := Int.mul_nonneg dy.1 (by omega)
    repeat walk_at "m.e"
    walk_at "m.x"
    walk_at "m.x"
    refine ⟨_, by (repeat' first | (with_reducible exact Sub.refl _) | (with_reducible exact Sub.nil _) | (with_reducible refine' Sub.cons ?_ ?_) | rfl), Le.upd hle' hfσ, by walk_at "k.H", by simp [hlen'], dig_snoc hd, ?_⟩
    have hq : (a0 / 2 ^ n + a1 * 2 ^ (w - n)) % 2 ^ w = a0 / 2 ^ n + (a1 % 2 ^ n) * 2 ^ (w - n) := by
      have h1 := Int.emod_add_mul_ediv a1 (2 ^ n)
      have h2 := Int.emod_nonneg a1 (show (2 : Int) ^ n ≠ 0 by omega)
      have h3 := Int.emod_lt_of_pos a1 hpn
      have h4 : 0 ≤ (a1 % 2 ^ n) * 2 ^ (w - n) := Int.mul_nonneg h2 (by omega)
      have h5 : (a1 % 2 ^ n) * 2 ^ (w - n) ≤ (2 ^ n - 1) * 2 ^ (w - n) := Int.mul_le_mul_of_nonneg_right (by omega) (by omega)
      rw [Int.sub_mul, Int.one_mul, ← hsp] at h5
      have h6 : a0 / 2 ^ n + a1 * 2 ^ (w - n) = (a0 / 2 ^ n + (a1 % 2 ^ n) * 2 ^ (w - n)) + 2 ^ w * (a1 / 2 ^ n) := by
        rw [hsp]
        generalize a1 / 2 ^ n = q at *
        generalize a1 % 2 ^ n = r at *
        generalize (2 : Int) ^ (w - n) = M at *
        generalize (2 : Int) ^ n = N at *
        grind
      rw [h6, Int.add_mul_emod_self_left, Int.emod_eq_of_lt (by omega) (by omega)]
    rw [hq, val_append, hlen', val_take_succ w hk, hx0, Int.pow_succ]
    have h1 := Int.emod_add_mul_ediv a0 (2 ^ n)
    simp only [val, Int.mul_zero, Int.add_zero]
    rw [hsp] at hv ⊢
    generalize (a0 % 2 ^ n) = r0 at *
    generalize (a0 / 2 ^ n) = q0 at *
    generalize (a1 % 2 ^ n) = r1 at *
    generalize (limbs w x).getD 0 0 % 2 ^ n = z at *
    generalize (2 : Int) ^ (w - n) = M at *
    generalize (2 : Int) ^ n = N at *
    generalize (N * M) ^ k = P at *
    grind
  · rintro ns σ' ⟨hle', hf', hlen', hd, hv⟩
    rw [List.take_of_length_le (Nat.le_refl _), limbs_val hw] at hv
    have e3 : (limbs w x).getD (limbs w x).length 0 = 0 := by simp [List.getD]
    rw [e3, Int.zero_emod, Int.mul_zero, Int.add_zero] at hv
    have vn := val_nonneg hd
    obtain ⟨q, hq⟩ := Int.eq_ofNat_of_zero_le vn
    have r0 := Int.emod_nonneg ((limbs w x).getD 0 0) (show (2 : Int) ^ n ≠ 0 by omega)
    have r1 := Int.emod_lt_of_pos ((limbs w x).getD 0 0) hpn
    have hx2 : (x : Int) / 2 ^ n = q := by
      rw [← hv, hq, Int.add_comm, Int.add_mul_ediv_right _ _ (by omega), Int.ediv_eq_zero_of_lt r0 r1]; omega
    have hx3 : x / 2 ^ n = q := by
      have : ((x / 2 ^ n : Nat) : Int) = q := by rw [Int.natCast_ediv, pw_nat]; exact hx2
      omega
    walk_at "m.x"
    refine WE_callG (k := 4) (con_normal C) (envOk_mk rfl) G room (by decide) rfl ?_ rfl rfl rfl
    repeat walk_at "m.e"
    refine ⟨f, ns, rfl, hf', by omega, ?_⟩
    rw [strip_of hw hd hq, ← hx3]
    exact ret.up hle'

theorem defOk30 : DefOk (defAt 30) := ⟨by decide, by decide, rfl, rfl, rfl, fun vals _ _ _ _ _ h => by
  obtain ⟨a, b, c, rfl⟩ := len3 h
  rfl⟩
theorem defOk31 : DefOk (defAt 31) := ⟨by decide, by decide, rfl, rfl, rfl, fun vals _ _ _ _ _ h => by
  obtain ⟨a, b, c, rfl⟩ := len3 h
  rfl⟩

def SMul : Spec := fun vs σ K => ∃ a b w x y, vs = [.ref a, .ref b, .int ((w : Nat) : Int)] ∧ 1 ≤ w ∧ w ≤ 30 ∧ x < 2 ^ 64 ∧ y < 2 ^ 64 ∧ σ a = some (LI (limbs w x)) ∧ σ b = some (LI (limbs w y)) ∧ RetL σ K (limbs w (x * y))

theorem val_set (w : Nat) : ∀ {ns : List Int} {i : Nat} {x : Int}, i < ns.length → val w (ns.set i x) = val w ns + (2 ^ w) ^ i * (x - ns.getD i 0)
  | [], i, x, h => by simp at h
  | a :: r, 0, x, h => by simp [val]; omega
  | a :: r, i + 1, x, h => by
    have ih := val_set w (ns := r) (i := i) (x := x) (by simpa using h)
    simp only [List.set_cons_succ, val, ih, List.getD_cons_succ, Int.pow_succ]
    generalize (2 : Int) ^ w = B at *
    grind
theorem getD_set_ne {ns : List Int} {i j : Nat} {x : Int} (h : i ≠ j) : (ns.set i x).getD j 0 = ns.getD j 0 := by
  simp [List.getD, List.getElem?_set_ne h]
theorem getD_zeros (k i : Nat) : (List.replicate k (0 : Int)).getD i 0 = 0 := by
  by_cases h : i < k
  · simp [List.getD, h]
  · simp [List.getD, h]

theorem mul_bound {B c f l o : Int} (hc : c < B) (hf : f < B) (hl0 : 0 ≤ l) (hl : l < B) (ho0 : 0 ≤ o) (ho : o < B) : c + (f + l * o) < B * B := by
  have h1 : l * o ≤ (B - 1) * (B - 1) := Int.le_trans (Int.mul_le_mul_of_nonneg_right (show l ≤ B - 1 by omega) ho0) (Int.mul_le_mul_of_nonneg_left (by omega) (by omega))
  have h2 : (B - 1) * (B - 1) = B * B - B - B + 1 := by grind
  omega

set_option maxHeartbeats 4000000 in
theorem con_mul (C : Cx) : Con C 2 (defAt 30) SMul := by
  refine Con.mk ["a", "b", "w"] rfl defOk30 (by decide) ?_
  rintro g L q a cd A vs σ Q G room ⟨la, lb, w, x, y, rfl, hw, hw2, hx, hy, ha, hb, ret⟩
  refine ⟨rfl, ?_⟩
  have lx := limbs_short hw hx
  have ly := limbs_short hw hy
  have hp := pw_pos w
  have hp60 := pw_lt64 (show w ≤ 60 by omega)
  ((conv in (dBody _) => whnf); (conv in (dScope _) => whnf); (try dsimp only [List.zip_cons_cons, List.zip_nil_left]))
  walk_at "m.x"
  repeat walk_at "m.e"
  intro z hz
  repeat walk_at "m.e"
  have ez : ((limbs w x).length : Int) + ((limbs w y).length : Int) = (((limbs w x).length + (limbs w y).length : Nat) : Int) := by omega
  rw [ez]
  repeat walk_at "m.e"
  intro f hf
  repeat walk_at "m.e"
  intro t ht
  repeat walk_at "m.e"
  have le0 := Le.upd (o := LI [0]) (Le.refl σ) hz
  have hfσ : σ f = none := le_none le0 hf
  have le1 := Le.upd (o := LI (List.replicate ((limbs w x).length + (limbs w y).length) 0)) le0 hfσ
  have le2 := Le.upd (o := .tup [.ref f, .int (2 ^ w - 1)]) le1 (le_none le1 ht)
  refine X_ForEnumI (ι := List Int) (envOk_mk rfl) G room.handled la (limbs w x)
    (fun _ j => [(Str.ofString "b", .ref lb), (Str.ofString "w", .int (w : Int)), (Str.ofString "found", .ref f), (Str.ofString "mask", .int (2 ^ w - 1))])
    (fun k j σ' => Le σ σ' ∧ σ' f = some (LI j) ∧ j.length = (limbs w x).length + (limbs w y).length ∧ Dig w j ∧ (∀ i, k + (limbs w y).length ≤ i → j.getD i 0 = 0) ∧ val w j = val w ((limbs w x).take k) * y) (List.replicate ((limbs w x).length + (limbs w y).length) 0)
    rfl rfl rfl rfl (fun _ => rfl) ?_ ?_ ?_ ?_
  · repeat walk_at "m.e"
    exact ⟨rfl, by (repeat' first | (with_reducible exact Sub.refl _) | (with_reducible exact Sub.nil _) | (with_reducible refine' Sub.cons ?_ ?_) | rfl), le2, by walk_at "k.H", by simp, Dig.zeros w _, fun i _ => getD_zeros _ i, by simp [val, val_zeros]⟩
  · rintro k j σ' ⟨hle', _⟩
    exact hle' _ _ ha
  · rintro k ns σ' g' hk ⟨hle', hf', hlen', hd, hz', hv⟩ G'
    have dx := (limbs_dig hw x).getD k
    generalize hlimb : (limbs w x).getD k 0 = limb at *
    walk_at "m.x"
    repeat walk_at "m.e"
    refine X_ForEnumI (ι := List Int × Int) (envOk_mk rfl) G' room.handled lb (limbs w y)
      (fun _ j => [(Str.ofString "b", .ref lb), (Str.ofString "w", .int (w : Int)), (Str.ofString "found", .ref f), (Str.ofString "mask", .int (2 ^ w - 1)), (Str.ofString "at", .int (k : Int)), (Str.ofString "limb", .int limb), (Str.ofString "carry", .int j.2)])
      (fun i j σ' => Le σ σ' ∧ σ' f = some (LI j.1) ∧ j.1.length = (limbs w x).length + (limbs w y).length ∧ Dig w j.1 ∧ (∀ i, k + (limbs w y).length ≤ i → j.1.getD i 0 = 0) ∧ 0 ≤ j.2 ∧ j.2 < 2 ^ w ∧
        val w j.1 + (2 ^ w) ^ (k + i) * j.2 = val w ns + (2 ^ w) ^ k * limb * val w ((limbs w y).take i)) (ns, 0)
      rfl rfl rfl rfl (fun _ => rfl) ?_ ?_ ?_ ?_
    · repeat walk_at "m.e"
      exact ⟨rfl, by (repeat' first | (with_reducible exact Sub.refl _) | (with_reducible exact Sub.nil _) | (with_reducible refine' Sub.cons ?_ ?_) | rfl), hle', hf', hlen', hd, hz', Int.le_refl _, hp, by simp [val]⟩
    · rintro k j σ' ⟨hle', _⟩
      exact hle' _ _ hb
    · clear hle' hf' hlen' hd hz' hv
      rintro i ⟨ms, c⟩ σ' g'' hi ⟨hle', hf', hlen', hd, hz', h0, h1, hv⟩ G''
      dsimp only at hf' hlen' hd hz' h0 h1 hv
      have dy := (limbs_dig hw y).getD i
      generalize hoth : (limbs w y).getD i 0 = other at *
      have df := hd.getD (k + i)
      have hm0 : 0 ≤ limb * other := Int.mul_nonneg dx.1 dy.1
      walk_at "m.x"
      repeat walk_at "m.e"
      walk_at "m.x"
      repeat walk_at "m.e"
      walk_at "m.x"
      repeat walk_at "m.e"
      walk_at "m.x"
      walk_at "m.x"
      have hb2 := mul_bound h1 df.2 dx.1 dx.2 dy.1 dy.2
      have hki : k + i < ms.length := by omega
      refine ⟨(_, _), by (repeat' first | (with_reducible exact Sub.refl _) | (with_reducible exact Sub.nil _) | (with_reducible refine' Sub.cons ?_ ?_) | rfl), Le.upd hle' hfσ, by walk_at "k.H", by simpa using hlen', hd.set _ (Int.emod_nonneg _ (by omega)) (Int.emod_lt_of_pos _ hp), ?_, Int.ediv_nonneg (by omega) (by omega), Int.ediv_lt_of_lt_mul hp hb2, ?_⟩
      · intro i' hi'
        rw [getD_set_ne (by omega)]; exact hz' i' hi'
      · rw [val_set w hki, val_take_succ w hi, hoth, ← Nat.add_assoc, Int.pow_succ, Int.pow_add] at *
        have hdm := Int.emod_add_mul_ediv (c + (ms.getD (k + i) 0 + limb * other)) (2 ^ w)
        generalize (c + (ms.getD (k + i) 0 + limb * other)) % 2 ^ w = r at *
        generalize (c + (ms.getD (k + i) 0 + limb * other)) / 2 ^ w = u at *
        generalize ms.getD (k + i) 0 = fnd at *
        generalize ((2 : Int) ^ w) ^ i = P at *
        generalize ((2 : Int) ^ w) ^ k = P' at *
        generalize (2 : Int) ^ w = B at *
        grind
    · clear hle' hf' hlen' hd
      rintro ⟨ms, c⟩ σ' ⟨hle', hf', hlen', hd, hz'', h0, h1, hv'⟩
      dsimp only at hf' hlen' hd hz'' h0 h1 hv'
      rw [List.take_of_length_le (Nat.le_refl _), limbs_val hw] at hv'
      walk_at "m.x"
      repeat walk_at "m.e"
      walk_at "m.x"
      walk_at "m.x"
      have hki : k + (limbs w y).length < ms.length := by omega
      refine ⟨_, by (repeat' first | (with_reducible exact Sub.refl _) | (with_reducible exact Sub.nil _) | (with_reducible refine' Sub.cons ?_ ?_) | rfl), Le.upd hle' hfσ, by walk_at "k.H", by simpa using hlen', hd.set _ h0 h1, ?_, ?_⟩
      · intro i' hi'
        rw [getD_set_ne (by omega)]; exact hz'' i' (by omega)
      · rw [val_set w hki, hz'' _ (Nat.le_refl _), val_take_succ w hk, hlimb]
        generalize ((2 : Int) ^ w) ^ (k + (limbs w y).length) = P at *
        generalize ((2 : Int) ^ w) ^ k = P' at *
        grind
  · rintro ns σ' ⟨hle', hf', hlen', hd, hz', hv⟩
    rw [List.take_of_length_le (Nat.le_refl _), limbs_val hw] at hv
    walk_at "m.x"
    refine WE_callG (k := 4) (con_normal C) (envOk_mk rfl) G room (by decide) rfl ?_ rfl rfl rfl
    repeat walk_at "m.e"
    refine ⟨f, ns, rfl, hf', by omega, ?_⟩
    rw [strip_of hw (n := x * y) hd (by rw [hv]; push_cast; rfl)]
    exact ret.up hle'

theorem defOk32 : DefOk (defAt 32) := ⟨by decide, by decide, rfl, rfl, rfl, fun vals _ _ _ _ _ h => by
  obtain ⟨a, b, c, d, rfl⟩ := len4 h
  rfl⟩

/-- a quotient and a rest -/
def RetDiv (w : Nat) (σ : ST) (K : V → ST → Prop) (q r : Nat) : Prop := ∀ t a b σ', Le σ σ' → σ' t = some (.tup [.ref a, .ref b]) → σ' a = some (LI (limbs w q)) → σ' b = some (LI (limbs w r)) → K (.ref t) σ'

def SDivSmall : Spec := fun vs σ K => ∃ a b w x y, vs = [.ref a, .ref b, .int ((w : Nat) : Int)] ∧ 1 ≤ w ∧ w ≤ 30 ∧ x < 2 ^ 64 ∧ 0 < y ∧ y < 2 ^ w ∧ σ a = some (LI (limbs w x)) ∧ σ b = some (LI (limbs w y)) ∧ RetDiv w σ K (x / y) (x % y)

theorem limbs_one {w n : Nat} (hw : 1 ≤ w) (h0 : 0 < n) (h1 : n < 2 ^ w) : limbs w n = [(n : Int)] := by
  rw [limbs_pos hw (by omega), Nat.mod_eq_of_lt h1, Nat.div_eq_of_lt h1, limbs_zero]

set_option maxHeartbeats 2000000 in
theorem con_divrem_small (C : Cx) : Con C 3 (defAt 31) SDivSmall := by
  refine Con.mk ["a", "b", "w"] rfl defOk31 (by decide) ?_
  rintro g L q a cd A vs σ Q G room ⟨la, lb, w, x, y, rfl, hw, hw2, hx, hy0, hy1, ha, hb, ret⟩
  refine ⟨rfl, ?_⟩
  rw [limbs_one hw hy0 hy1] at hb
  ((conv in (dBody _) => whnf); (conv in (dScope _) => whnf); (try dsimp only [List.zip_cons_cons, List.zip_nil_left]))
  walk_at "m.x"
  refine WE_callG (k := 8) (con_divrem_limb C) (envOk_mk rfl) G room (by decide) rfl ?_ rfl rfl rfl
  walk_at "m.e"
  walk_at "m.e"
  walk_at "m.e"
  walk_at "m.e"
  walk_at "m.e"
  walk_at "m.e"
  refine itemK_lit hb (by decide) (by decide) rfl ?_
  repeat walk_at "m.e"
  refine ⟨la, w, x, y, rfl, hw, by omega, hx, hy0, hy1, ha, ?_⟩
  intro t r σ' hle ht hr
  repeat walk_at "m.e"
  walk_at "m.x"
  walk_at "m.e"
  walk_at "m.e"
  walk_at "m.e"
  walk_at "m.e"
  (with_reducible refine' WE_IfExp ?_)
  repeat walk_at "m.e"
  have hrl : x % y < 2 ^ w := Nat.lt_trans (Nat.mod_lt _ hy0) hy1
  refine if_dec (fun h => ?_) (fun h => ?_)
  · repeat walk_at "m.e"
    intro l hl
    repeat walk_at "m.e"
    intro t' ht'
    have e1 : upd (upd σ' l (LI [((x % y : Nat) : Int)])) t' (.tup [.ref r, .ref l]) l = some (LI [((x % y : Nat) : Int)]) := upd_fresh ht' (upd_same _ _ _)
    refine ret t' r l _ (Le.upd (Le.upd hle (le_none hle hl)) (le_none (Le.upd hle (le_none hle hl)) ht')) (upd_same _ _ _) (upd_fresh ht' (upd_fresh hl hr)) ?_
    rw [limbs_one hw (by omega) hrl]; exact e1
  · repeat walk_at "m.e"
    intro l hl
    repeat walk_at "m.e"
    intro t' ht'
    have e1 : upd (upd σ' l (LI [])) t' (.tup [.ref r, .ref l]) l = some (LI []) := upd_fresh ht' (upd_same _ _ _)
    have e0 : x % y = 0 := by omega
    refine ret t' r l _ (Le.upd (Le.upd hle (le_none hle hl)) (le_none (Le.upd hle (le_none hle hl)) ht')) (upd_same _ _ _) (upd_fresh ht' (upd_fresh hl hr)) ?_
    rw [e0]; exact e1

def SGuess : Spec := fun vs σ K => ∃ a w u0 u1 u2 v1 v2, vs = [.ref a, .int v1, .int v2, .int ((w : Nat) : Int)] ∧ 1 ≤ w ∧ w ≤ 30 ∧ σ a = some (LI [u0, u1, u2]) ∧ Dig w [u0, u1, u2] ∧ 0 < v1 ∧ v1 < 2 ^ w ∧ 0 ≤ v2 ∧ v2 < 2 ^ w ∧
  ∀ q σ', Le σ σ' → 0 ≤ q → q ≤ 2 ^ w - 1 → q * (v1 * 2 ^ w + v2) ≤ (u2 * 2 ^ w + u1) * 2 ^ w + u0 → (q = 2 ^ w - 1 ∨ (u2 * 2 ^ w + u1) * 2 ^ w + u0 < (q + 1) * (v1 * 2 ^ w + v2)) → K (.int q) σ'

theorem pw_mul_le {w : Nat} (hw : w ≤ 30) : (2 : Int) ^ w * 2 ^ w ≤ 2 ^ 60 := by
  rw [← Int.pow_add]
  exact pw_lt64 (w := w + w) (by omega)

set_option maxHeartbeats 2000000 in
theorem con_guess (C : Cx) : Con C 1 (defAt 32) SGuess := by
  refine Con.mk ["top", "first", "second", "w"] rfl defOk32 (by decide) ?_
  rintro g L q a cd A vs σ Q G room ⟨la, w, u0, u1, u2, v1, v2, rfl, hw, hw2, ha, hd, hv1, hv1', hv2, hv2', ret⟩
  refine ⟨rfl, ?_⟩
  have hp := pw_pos w
  have hp60 := pw_lt64 (show w ≤ 60 by omega)
  have hpp := pw_mul_le hw2
  have d0 := hd u0 (by simp)
  have d1 := hd u1 (by simp)
  have d2 := hd u2 (by simp)
  have hh0 : 0 ≤ u2 * 2 ^ w := Int.mul_nonneg d2.1 (by omega)
  have hh1 : u2 * 2 ^ w ≤ (2 ^ w - 1) * 2 ^ w := Int.mul_le_mul_of_nonneg_right (by omega) (by omega)
  rw [Int.sub_mul, Int.one_mul] at hh1
  ((conv in (dBody _) => whnf); (conv in (dScope _) => whnf); (try dsimp only [List.zip_cons_cons, List.zip_nil_left]))
  walk_at "m.x"
  walk_at "m.e"
  walk_at "m.e"
  walk_at "m.e"
  walk_at "m.e"
  walk_at "m.e"
  walk_at "m.e"
  walk_at "m.e"
  refine itemK_lit ha (by decide) (by decide) rfl ?_
  repeat walk_at "m.e"
  have eu1 : [u0, u1, u2].getD (Int.toNat 1) 0 = u1 := rfl
  rw [eu1]
  repeat walk_at "m.e"
  intro t ht
  repeat walk_at "m.e"
  walk_at "m.x"
  generalize hhigh : u2 * 2 ^ w + u1 = high at *
  repeat walk_at "m.e"
  obtain ⟨l0, hl0⟩ : ∃ l0, l0 = if 2 ^ w - 1 < high / v1 then 2 ^ w - 1 else high / v1 := ⟨_, rfl⟩
  rw [← hl0]
  have hq0 : 0 ≤ high / v1 := Int.ediv_nonneg (by omega) (by omega)
  have hqm : v1 * (high / v1) ≤ high := by have := Int.mul_ediv_self_le (x := high) (k := v1) (by omega); exact this
  have hql : high < v1 * (high / v1) + v1 := by have := Int.lt_mul_ediv_self_add (x := high) (k := v1) hv1; exact this
  have hl0' : 0 ≤ l0 ∧ l0 ≤ 2 ^ w - 1 ∧ l0 ≤ high / v1 ∧ (l0 = 2 ^ w - 1 ∨ l0 = high / v1) := by
    by_cases h : 2 ^ w - 1 < high / v1
    · rw [if_pos h] at hl0; subst hl0; omega
    · rw [if_neg h] at hl0; subst hl0; omega
  have hlv : l0 * v1 ≤ high := by
    have := Int.mul_le_mul_of_nonneg_right hl0'.2.2.1 (Int.le_of_lt hv1)
    rw [Int.mul_comm (high / v1)] at this
    omega
  walk_at "m.x"
  repeat walk_at "m.e"
  have hst : l0 = 2 ^ w - 1 ∨ high * 2 ^ w + u0 < (l0 + 1) * (v1 * 2 ^ w + v2) := by
    rcases hl0'.2.2.2 with h | h
    · exact .inl h
    · right
      have h1 : high + 1 ≤ (l0 + 1) * v1 := by rw [h, Int.add_mul, Int.one_mul, Int.mul_comm]; omega
      have h2 := Int.mul_le_mul_of_nonneg_right h1 (Int.le_of_lt hp)
      have h3 : 0 ≤ (l0 + 1) * v2 := Int.mul_nonneg (by omega) hv2
      have e : (l0 + 1) * (v1 * 2 ^ w + v2) = (l0 + 1) * v1 * 2 ^ w + (l0 + 1) * v2 := by grind
      rw [e]
      rw [Int.add_mul, Int.one_mul] at h2
      omega
  have le0 := Le.upd (o := .tup [.int high, .int (2 ^ w)]) (Le.refl σ) ht
  refine X_While (fun j : Int × Int => j.1.toNat) (fun j => [(Str.ofString "top", .ref la), (Str.ofString "first", .int v1), (Str.ofString "second", .int v2), (Str.ofString "w", .int (w : Int)), (Str.ofString "high", .int high), (Str.ofString "base", .int (2 ^ w)), (Str.ofString "limb", .int j.1), (Str.ofString "rest", .int j.2)])
    (fun j σ' => Le σ σ' ∧ 0 ≤ j.1 ∧ j.1 ≤ 2 ^ w - 1 ∧ j.2 = high - j.1 * v1 ∧ 0 ≤ j.2 ∧ (j.1 = 2 ^ w - 1 ∨ high * 2 ^ w + u0 < (j.1 + 1) * (v1 * 2 ^ w + v2))) (l0, high - l0 * v1) (by (repeat' first | (with_reducible exact Sub.refl _) | (with_reducible exact Sub.nil _) | (with_reducible refine' Sub.cons ?_ ?_) | rfl)) ⟨le0, hl0'.1, hl0'.2.1, rfl, by dsimp only; omega, hst⟩ ?_
  clear hst hlv hl0' hqm hql hq0 hl0 l0
  rintro ⟨l, r⟩ σ' ⟨hle, hl0, hl1, hr, hr0, hst⟩
  dsimp only at hl0 hl1 hr hr0 hst
  have ha' := hle _ _ ha
  have hfin : (r < 2 ^ w → l * v2 ≤ r * 2 ^ w + u0) → Q (.int l) σ' := fun h => by
    refine ret l σ' hle hl0 hl1 ?_ hst
    have e : l * (v1 * 2 ^ w + v2) = (high - r) * 2 ^ w + l * v2 := by
      have : l * v1 = high - r := by omega
      rw [Int.mul_add, ← Int.mul_assoc, this]
    rw [e, Int.sub_mul]
    by_cases hrB : r < 2 ^ w
    · have := h hrB; omega
    · have h1 := Int.mul_le_mul_of_nonneg_right (show (2 : Int) ^ w ≤ r by omega) (Int.le_of_lt hp)
      have h2 : l * v2 ≤ (2 ^ w - 1) * (2 ^ w) := Int.le_trans (Int.mul_le_mul_of_nonneg_right hl1 hv2) (Int.mul_le_mul_of_nonneg_left (by omega) (by omega))
      rw [Int.sub_mul, Int.one_mul] at h2
      omega
  repeat walk_at "m.e"
  refine if_dec (fun h => ?_) (fun h => ?_)
  · have hrb := Int.mul_nonneg hr0 (Int.le_of_lt hp)
    repeat walk_at "m.e"
    have eu0 : [u0, u1, u2].getD (Int.toNat 0) 0 = u0 := rfl
    rw [eu0]
    repeat walk_at "m.e"
    refine if_dec (fun h2 => ?_) (fun h2 => ?_)
    · dsimp only at h2
      walk_at "m.x"
      repeat walk_at "m.e"
      walk_at "m.x"
      repeat walk_at "m.e"
      walk_at "m.x"
      walk_at "m.x"
      have hlpos : 0 < l := by
        rcases Int.lt_or_eq_of_le hl0 with h3 | h3
        · exact h3
        · rw [← h3] at h2; omega
      refine ⟨(l - 1, r + v1), ?_, by (repeat' first | (with_reducible exact Sub.refl _) | (with_reducible exact Sub.nil _) | (with_reducible refine' Sub.cons ?_ ?_) | rfl), hle, ?_⟩
      · show (l - 1).toNat < l.toNat; omega
      · dsimp only
        refine ⟨by omega, by omega, by rw [Int.sub_mul, Int.one_mul]; omega, by omega, .inr ?_⟩
        have e : (l - 1 + 1) * (v1 * 2 ^ w + v2) = (high - r) * 2 ^ w + l * v2 := by
          have : l * v1 = high - r := by omega
          rw [Int.sub_add_cancel, Int.mul_add, ← Int.mul_assoc, this]
        rw [e, Int.sub_mul]
        omega
    · dsimp only at h2
      walk_at "m.x"
      repeat walk_at "m.e"
      exact hfin fun _ => by omega
  · repeat walk_at "m.x"
    repeat walk_at "m.e"
    exact hfin fun h3 => absurd h3 h

theorem defOk33 : DefOk (defAt 33) := ⟨by decide, by decide, rfl, rfl, rfl, fun vals _ _ _ _ _ h => by
  obtain ⟨a, b, c, d, e, rfl⟩ := len5 h
  rfl⟩
theorem defOk34 : DefOk (defAt 34) := ⟨by decide, by decide, rfl, rfl, rfl, fun vals _ _ _ _ _ h => by
  obtain ⟨a, b, c, d, rfl⟩ := len4 h
  rfl⟩

/-- all but one object as it was -/
def LeBut (r : Addr) (σ σ' : ST) : Prop := ∀ a o, a ≠ r → σ a = some o → σ' a = some o
theorem LeBut.refl (r : Addr) (σ : ST) : LeBut r σ σ := fun _ _ _ h => h
theorem LeBut.upd {r : Addr} {σ σ' : ST} {o : MO} (h : LeBut r σ σ') : LeBut r σ (Mine.upd σ' r o) := fun a ob ha e => by rw [upd_ne ha]; exact h a ob ha e
theorem LeBut.le {r : Addr} {σ σ' σ'' : ST} (h : LeBut r σ σ') (h' : Le σ' σ'') : LeBut r σ σ'' := fun a ob ha e => h' a ob (h a ob ha e)
theorem LeBut.after {r : Addr} {σ σ' σ'' : ST} (h : Le σ σ') (h' : LeBut r σ' σ'') : LeBut r σ σ'' := fun a ob ha e => h' a ob ha (h a ob e)
theorem LeBut.trans {r : Addr} {σ σ' σ'' : ST} (h : LeBut r σ σ') (h' : LeBut r σ' σ'') : LeBut r σ σ'' := fun a ob ha e => h' a ob ha (h a ob ha e)

def STake : Spec := fun vs σ K => ∃ r b w limb at' R ds, vs = [.ref r, .ref b, .int limb, .int ((at' : Nat) : Int), .int ((w : Nat) : Int)] ∧ b ≠ r ∧ 1 ≤ w ∧ w ≤ 30 ∧ σ r = some (LI R) ∧ σ b = some (LI ds) ∧ Dig w R ∧ Dig w ds ∧ 0 ≤ limb ∧ limb < 2 ^ w ∧
  at' + ds.length < R.length ∧ R.length ≤ 400 ∧
  ∀ R' bw σ', LeBut r σ σ' → σ' r = some (LI R') → R'.length = R.length → Dig w R' → (∀ i, i < at' ∨ at' + ds.length < i → R'.getD i 0 = R.getD i 0) → (bw = 0 ∨ bw = 1) →
    val w R' = val w R - (2 ^ w) ^ at' * limb * val w ds + bw * (2 ^ w) ^ (at' + ds.length + 1) → K (.int bw) σ'

def SPut : Spec := fun vs σ K => ∃ r b w at' R ds, vs = [.ref r, .ref b, .int ((at' : Nat) : Int), .int ((w : Nat) : Int)] ∧ b ≠ r ∧ 1 ≤ w ∧ w ≤ 30 ∧ σ r = some (LI R) ∧ σ b = some (LI ds) ∧ Dig w R ∧ Dig w ds ∧
  at' + ds.length < R.length ∧ R.length ≤ 400 ∧
  ∀ R' bw σ', LeBut r σ σ' → σ' r = some (LI R') → R'.length = R.length → Dig w R' → (∀ i, i < at' ∨ at' + ds.length < i → R'.getD i 0 = R.getD i 0) → (bw = 0 ∨ bw = 1) →
    val w R' = val w R + (2 ^ w) ^ at' * val w ds - bw * (2 ^ w) ^ (at' + ds.length + 1) → K .none σ'

theorem take_bound {B l o c : Int} (hB : 2 ≤ B) (hl0 : 0 ≤ l) (hl : l ≤ B - 1) (ho0 : 0 ≤ o) (ho : o ≤ B - 1) (hc0 : 0 ≤ c) (hc : c ≤ B - 1) :
    0 ≤ (l * o + c) / B ∧ ((l * o + c) / B ≤ B - 2 ∨ ((l * o + c) / B = B - 1 ∧ (l * o + c) % B = 0)) := by
  have h0 : 0 ≤ l * o := Int.mul_nonneg hl0 ho0
  have h1 : l * o ≤ (B - 1) * (B - 1) := Int.le_trans (Int.mul_le_mul_of_nonneg_right hl ho0) (Int.mul_le_mul_of_nonneg_left ho (by omega))
  have h2 : (B - 1) * (B - 1) + (B - 1) = B * (B - 1) := by grind
  have hdm := Int.emod_add_mul_ediv (l * o + c) B
  have hm0 := Int.emod_nonneg (l * o + c) (show B ≠ 0 by omega)
  generalize (l * o + c) % B = m at *
  generalize hq : (l * o + c) / B = q at *
  have hq0 : 0 ≤ q := by rw [← hq]; exact Int.ediv_nonneg (by omega) (by omega)
  refine ⟨hq0, ?_⟩
  by_cases h : q ≤ B - 2
  · exact .inl h
  · right
    have h3 : B * (B - 1) ≤ B * q := Int.mul_le_mul_of_nonneg_left (by omega) (by omega)
    refine ⟨?_, by omega⟩
    by_cases h4 : q = B - 1
    · exact h4
    · have h5 : B * (B - 1 + 1) ≤ B * q := Int.mul_le_mul_of_nonneg_left (by omega) (by omega)
      rw [Int.mul_add, Int.mul_one] at h5
      omega

set_option maxHeartbeats 4000000 in
theorem con_take (C : Cx) : Con C 1 (defAt 33) STake := by
  refine Con.mk ["rest", "b", "limb", "at", "w"] rfl defOk33 (by decide) ?_
  rintro g L q a cd A vs σ Q G room ⟨lr, lb, w, limb, at', R, ds, rfl, hne, hw, hw2, hr, hb, hR, hds, hl0, hl1, hlen, hmax, ret⟩
  refine ⟨rfl, ?_⟩
  have hp := pw_pos w
  have hp2 := pw_ge2 hw
  have hp60 := pw_lt64 (show w ≤ 60 by omega)
  ((conv in (dBody _) => whnf); (conv in (dScope _) => whnf); (try dsimp only [List.zip_cons_cons, List.zip_nil_left]))
  walk_at "m.x"
  repeat walk_at "m.e"
  intro t ht
  repeat walk_at "m.e"
  have le0 := Le.upd (o := .tup [.int 0, .int (2 ^ w)]) (Le.refl σ) ht
  refine X_ForEnumI (ι := List Int × Int) (envOk_mk rfl) G room.handled lb ds
    (fun _ j => [(Str.ofString "rest", .ref lr), (Str.ofString "b", .ref lb), (Str.ofString "limb", .int limb), (Str.ofString "at", .int (at' : Int)), (Str.ofString "w", .int (w : Int)), (Str.ofString "carry", .int j.2), (Str.ofString "base", .int (2 ^ w))])
    (fun k j σ' => LeBut lr σ σ' ∧ σ' lr = some (LI j.1) ∧ j.1.length = R.length ∧ Dig w j.1 ∧ (∀ i, i < at' ∨ at' + k ≤ i → j.1.getD i 0 = R.getD i 0) ∧ 0 ≤ j.2 ∧ j.2 ≤ 2 ^ w - 1 ∧
      val w j.1 - (2 ^ w) ^ (at' + k) * j.2 = val w R - (2 ^ w) ^ at' * limb * val w (ds.take k)) (R, 0)
    rfl rfl rfl rfl (fun _ => rfl) ?_ ?_ ?_ ?_
  · repeat walk_at "m.e"
    exact ⟨rfl, by (repeat' first | (with_reducible exact Sub.refl _) | (with_reducible exact Sub.nil _) | (with_reducible refine' Sub.cons ?_ ?_) | rfl), (LeBut.refl _ _).le le0, le0 _ _ hr, rfl, hR, fun _ _ => rfl, Int.le_refl _, by dsimp only; omega, by simp [val]⟩
  · rintro k j σ' ⟨hle', _⟩
    exact hle' _ _ hne hb
  · rintro k ⟨ns, c⟩ σ' g' hk ⟨hle', hf', hlen', hd, hun, h0, h1, hv⟩ G'
    dsimp only at hf' hlen' hd hun h0 h1 hv
    have dy := hds.getD k
    generalize hoth : ds.getD k 0 = other at *
    have df := hd.getD (at' + k)
    have hm0 : 0 ≤ limb * other := Int.mul_nonneg hl0 dy.1
    have hki : at' + k < ns.length := by omega
    have htb := take_bound hp2 hl0 (show limb ≤ 2 ^ w - 1 by omega) dy.1 (show other ≤ 2 ^ w - 1 by omega) h0 h1
    have hdm := Int.emod_add_mul_ediv (limb * other + c) (2 ^ w)
    have hmm0 := Int.emod_nonneg (limb * other + c) (show (2 : Int) ^ w ≠ 0 by omega)
    have hmm1 := Int.emod_lt_of_pos (limb * other + c) hp
    walk_at "m.x"
    repeat walk_at "m.e"
    generalize hfnd : ns.getD (at' + k) 0 = fnd at *
    walk_at "m.x"
    repeat walk_at "m.e"
    generalize hqq : (limb * other + c) / 2 ^ w = qq at *
    generalize hrr : (limb * other + c) % 2 ^ w = rr at *
    generalize hhere : fnd - rr = here at *
    obtain ⟨c1, ec⟩ : ∃ c1 : Int, c1 = if here < 0 then 1 else 0 := ⟨_, rfl⟩
    obtain ⟨d1, ed⟩ : ∃ d1 : Int, d1 = if here < 0 then here + 2 ^ w else here := ⟨_, rfl⟩
    refine WE_is (.int c1) ?_ ?_
    · (with_reducible refine' WE_IfExp ?_)
      repeat walk_at "m.e"
      refine if_dec (fun h => ?_) (fun h => ?_)
      · repeat walk_at "m.e"
        exact ⟨by rw [ec, if_pos h], rfl, rfl⟩
      · repeat walk_at "m.e"
        exact ⟨by rw [ec, if_neg h], rfl, rfl⟩
    repeat walk_at "m.e"
    walk_at "m.x"
    refine WE_is (.int d1) ?_ ?_
    · (with_reducible refine' WE_IfExp ?_)
      repeat walk_at "m.e"
      refine if_dec (fun h => ?_) (fun h => ?_)
      · repeat walk_at "m.e"
        exact ⟨by rw [ed, if_pos h], rfl, rfl⟩
      · repeat walk_at "m.e"
        exact ⟨by rw [ed, if_neg h], rfl, rfl⟩
    repeat walk_at "m.e"
    walk_at "m.x"
    walk_at "m.x"
    have hcd : 0 ≤ d1 ∧ d1 < 2 ^ w ∧ 0 ≤ qq + c1 ∧ qq + c1 ≤ 2 ^ w - 1 ∧ d1 = here + 2 ^ w * c1 := by
      by_cases h : here < 0
      · rw [if_pos h] at ec ed; subst ec ed; omega
      · rw [if_neg h] at ec ed; subst ec ed; omega
    refine ⟨(_, _), by (repeat' first | (with_reducible exact Sub.refl _) | (with_reducible exact Sub.nil _) | (with_reducible refine' Sub.cons ?_ ?_) | rfl), hle'.upd, by walk_at "k.H", by simpa using hlen', hd.set _ hcd.1 hcd.2.1, ?_, hcd.2.2.1, hcd.2.2.2.1, ?_⟩
    · intro i hi
      rw [getD_set_ne (by omega)]; exact hun i (by omega)
    · have he := hcd.2.2.2.2
      rw [val_set w hki, val_take_succ w hk, hoth, hfnd, ← Nat.add_assoc, Int.pow_succ, Int.pow_add] at *
      subst hhere
      rw [he]
      generalize ((2 : Int) ^ w) ^ k = P at *
      generalize ((2 : Int) ^ w) ^ at' = P' at *
      generalize (2 : Int) ^ w = B at *
      grind
  · rintro ⟨ns, c⟩ σ' ⟨hle', hf', hlen', hd, hun, h0, h1, hv⟩
    dsimp only at hf' hlen' hd hun h0 h1 hv
    rw [List.take_of_length_le (Nat.le_refl _)] at hv
    have df := hd.getD (at' + ds.length)
    have hki : at' + ds.length < ns.length := by omega
    have hb' := hle' _ _ hne hb
    walk_at "m.x"
    repeat walk_at "m.e"
    generalize hfnd : ns.getD (at' + ds.length) 0 = fnd at *
    generalize hhere : fnd - c = here at *
    obtain ⟨c1, ec⟩ : ∃ c1 : Int, c1 = if here < 0 then 1 else 0 := ⟨_, rfl⟩
    obtain ⟨d1, ed⟩ : ∃ d1 : Int, d1 = if here < 0 then here + 2 ^ w else here := ⟨_, rfl⟩
    walk_at "m.x"
    refine WE_is (.int d1) ?_ ?_
    · (with_reducible refine' WE_IfExp ?_)
      repeat walk_at "m.e"
      refine if_dec (fun h => ?_) (fun h => ?_)
      · repeat walk_at "m.e"
        exact ⟨by rw [ed, if_pos h], rfl, rfl⟩
      · repeat walk_at "m.e"
        exact ⟨by rw [ed, if_neg h], rfl, rfl⟩
    repeat walk_at "m.e"
    walk_at "m.x"
    refine WE_is (.int c1) ?_ ?_
    · (with_reducible refine' WE_IfExp ?_)
      repeat walk_at "m.e"
      refine if_dec (fun h => ?_) (fun h => ?_)
      · repeat walk_at "m.e"
        exact ⟨by rw [ec, if_pos h], rfl, rfl⟩
      · repeat walk_at "m.e"
        exact ⟨by rw [ec, if_neg h], rfl, rfl⟩
    have hcd : 0 ≤ d1 ∧ d1 < 2 ^ w ∧ d1 = here + 2 ^ w * c1 ∧ (c1 = 0 ∨ c1 = 1) := by
      by_cases h : here < 0
      · rw [if_pos h] at ec ed; subst ec ed; omega
      · rw [if_neg h] at ec ed; subst ec ed; omega
    refine ret (ns.set (at' + ds.length) d1) c1 _ hle'.upd (upd_same _ _ _) (by simpa using hlen') (hd.set _ hcd.1 hcd.2.1) ?_ hcd.2.2.2 ?_
    · intro i hi
      rw [getD_set_ne (by omega)]; exact hun i (by omega)
    · have he := hcd.2.2.1
      rw [val_set w hki, hfnd, Int.pow_succ]
      subst hhere
      rw [he]
      generalize ((2 : Int) ^ w) ^ (at' + ds.length) = P at *
      generalize (2 : Int) ^ w = B at *
      grind

theorem X_ExprNone {C : Cx} {A : Around} {g : Heap} {L : Addr} {E : Value → Shared → Prop} {m : LM} {σ : ST} {env : Env} {e : Expr} {pos : Pos} {rest : List Stmt} {Q : Flow → LM → ST → Prop} (hi : interactive env = false) (hs : swapsWith e none pos.line env = pure false)
    (h : WE C A g L E m σ (eval e env) (fun v m₁ σ₁ => v = .none ∧ X C A g L E m₁ σ₁ rest env Q)) : X C A g L E m σ (.Expr e pos :: rest) env Q :=
  X_step fun hh tk R => wpAny_Expr (wpAny_mono (h hh tk R) (fun v s₁ ⟨h', tk', m', σ', e, R', ev, q⟩ => by
    rw [er_none ev]
    exact ⟨h', tk', m', σ', e, R', q⟩) fun _ _ x => x) hi hs

theorem add_bound {B c f o : Int} (hB : 2 ≤ B) (hc0 : 0 ≤ c) (hc : c ≤ 1) (hf0 : 0 ≤ f) (hf : f < B) (ho0 : 0 ≤ o) (ho : o < B) : 0 ≤ (c + (f + o)) / B ∧ (c + (f + o)) / B ≤ 1 := by
  refine ⟨Int.ediv_nonneg (by omega) (by omega), ?_⟩
  have : (c + (f + o)) / B < 2 := Int.ediv_lt_of_lt_mul (by omega) (by omega)
  omega

set_option maxHeartbeats 4000000 in
theorem con_put (C : Cx) : Con C 1 (defAt 34) SPut := by
  refine Con.mk ["rest", "b", "at", "w"] rfl defOk34 (by decide) ?_
  rintro g L q a cd A vs σ Q G room ⟨lr, lb, w, at', R, ds, rfl, hne, hw, hw2, hr, hb, hR, hds, hlen, hmax, ret⟩
  refine ⟨rfl, ?_⟩
  have hp := pw_pos w
  have hp2 := pw_ge2 hw
  have hp60 := pw_lt64 (show w ≤ 60 by omega)
  ((conv in (dBody _) => whnf); (conv in (dScope _) => whnf); (try dsimp only [List.zip_cons_cons, List.zip_nil_left]))
  walk_at "m.x"
  repeat walk_at "m.e"
  intro t ht
  repeat walk_at "m.e"
  have le0 := Le.upd (o := .tup [.int 0, .int (2 ^ w - 1)]) (Le.refl σ) ht
  refine X_ForEnumI (ι := List Int × Int) (envOk_mk rfl) G room.handled lb ds
    (fun _ j => [(Str.ofString "rest", .ref lr), (Str.ofString "b", .ref lb), (Str.ofString "at", .int (at' : Int)), (Str.ofString "w", .int (w : Int)), (Str.ofString "carry", .int j.2), (Str.ofString "mask", .int (2 ^ w - 1))])
    (fun k j σ' => LeBut lr σ σ' ∧ σ' lr = some (LI j.1) ∧ j.1.length = R.length ∧ Dig w j.1 ∧ (∀ i, i < at' ∨ at' + k ≤ i → j.1.getD i 0 = R.getD i 0) ∧ 0 ≤ j.2 ∧ j.2 ≤ 1 ∧
      val w j.1 + (2 ^ w) ^ (at' + k) * j.2 = val w R + (2 ^ w) ^ at' * val w (ds.take k)) (R, 0)
    rfl rfl rfl rfl (fun _ => rfl) ?_ ?_ ?_ ?_
  · repeat walk_at "m.e"
    exact ⟨rfl, by (repeat' first | (with_reducible exact Sub.refl _) | (with_reducible exact Sub.nil _) | (with_reducible refine' Sub.cons ?_ ?_) | rfl), (LeBut.refl _ _).le le0, le0 _ _ hr, rfl, hR, fun _ _ => rfl, Int.le_refl _, by dsimp only; omega, by simp [val]⟩
  · rintro k j σ' ⟨hle', _⟩
    exact hle' _ _ hne hb
  · rintro k ⟨ns, c⟩ σ' g' hk ⟨hle', hf', hlen', hd, hun, h0, h1, hv⟩ G'
    dsimp only at hf' hlen' hd hun h0 h1 hv
    have dy := hds.getD k
    generalize hoth : ds.getD k 0 = other at *
    have df := hd.getD (at' + k)
    have hki : at' + k < ns.length := by omega
    have hab := add_bound hp2 h0 h1 df.1 df.2 dy.1 dy.2
    have hdm := Int.emod_add_mul_ediv (c + (ns.getD (at' + k) 0 + other)) (2 ^ w)
    walk_at "m.x"
    repeat walk_at "m.e"
    walk_at "m.x"
    repeat walk_at "m.e"
    walk_at "m.x"
    repeat walk_at "m.e"
    walk_at "m.x"
    walk_at "m.x"
    refine ⟨(_, _), by (repeat' first | (with_reducible exact Sub.refl _) | (with_reducible exact Sub.nil _) | (with_reducible refine' Sub.cons ?_ ?_) | rfl), hle'.upd, by walk_at "k.H", by simpa using hlen', hd.set _ (Int.emod_nonneg _ (by omega)) (Int.emod_lt_of_pos _ hp), ?_, hab.1, hab.2, ?_⟩
    · intro i hi
      rw [getD_set_ne (by omega)]; exact hun i (by omega)
    · rw [val_set w hki, val_take_succ w hk, hoth, ← Nat.add_assoc, Int.pow_succ, Int.pow_add] at *
      generalize (c + (ns.getD (at' + k) 0 + other)) / 2 ^ w = qq at *
      generalize (c + (ns.getD (at' + k) 0 + other)) % 2 ^ w = rr at *
      generalize ns.getD (at' + k) 0 = fnd at *
      generalize ((2 : Int) ^ w) ^ k = P at *
      generalize ((2 : Int) ^ w) ^ at' = P' at *
      generalize (2 : Int) ^ w = B at *
      grind
  · rintro ⟨ns, c⟩ σ' ⟨hle', hf', hlen', hd, hun, h0, h1, hv⟩
    dsimp only at hf' hlen' hd hun h0 h1 hv
    rw [List.take_of_length_le (Nat.le_refl _)] at hv
    have df := hd.getD (at' + ds.length)
    have hki : at' + ds.length < ns.length := by omega
    have hb' := hle' _ _ hne hb
    have hab := add_bound hp2 h0 h1 df.1 df.2 (Int.le_refl 0) hp
    rw [Int.add_zero, Int.add_comm] at hab
    have hdm := Int.emod_add_mul_ediv (ns.getD (at' + ds.length) 0 + c) (2 ^ w)
    walk_at "m.x"
    repeat walk_at "m.e"
    walk_at "m.x"
    refine ret (ns.set (at' + ds.length) _) ((ns.getD (at' + ds.length) 0 + c) / 2 ^ w) _ hle'.upd (upd_same _ _ _) (by simpa using hlen') (hd.set _ (Int.emod_nonneg _ (by omega)) (Int.emod_lt_of_pos _ hp)) ?_ (by omega) ?_
    · intro i hi
      rw [getD_set_ne (by omega)]; exact hun i (by omega)
    · rw [val_set w hki, Int.pow_succ]
      generalize (ns.getD (at' + ds.length) 0 + c) / 2 ^ w = qq at *
      generalize (ns.getD (at' + ds.length) 0 + c) % 2 ^ w = rr at *
      generalize ns.getD (at' + ds.length) 0 = fnd at *
      generalize ((2 : Int) ^ w) ^ (at' + ds.length) = P at *
      generalize (2 : Int) ^ w = B at *
      grind

theorem defOk35 : DefOk (defAt 35) := ⟨by decide, by decide, rfl, rfl, rfl, fun vals _ _ _ _ _ h => by
  obtain ⟨a, b, c, rfl⟩ := len3 h
  rfl⟩

/-- a guess is the digit or one more -/
theorem rows_pure {B M T D U V lo tl q : Int} (hB : 2 ≤ B) (hM : 1 ≤ M) (hD : D = lo + M * V) (hlo0 : 0 ≤ lo) (hlo : lo < M) (hT : T = tl + M * U) (htl0 : 0 ≤ tl) (htl : tl < M) (hV : B ≤ V)
    (hq0 : 0 ≤ q) (hq1 : q ≤ B - 1) (hqV : q * V ≤ U) (hst : q = B - 1 ∨ U < (q + 1) * V) (hTD : T < B * D) : T < (q + 1) * D ∧ (q - 1) * D ≤ T := by
  constructor
  · rcases hst with h | h
    · rw [h, Int.sub_add_cancel]; exact hTD
    · have h1 : M * (U + 1) ≤ M * ((q + 1) * V) := Int.mul_le_mul_of_nonneg_left (by omega) (by omega)
      have h2 : 0 ≤ (q + 1) * lo := Int.mul_nonneg (by omega) hlo0
      have e : (q + 1) * D = (q + 1) * lo + M * ((q + 1) * V) := by rw [hD]; grind
      rw [Int.mul_add, Int.mul_one] at h1
      omega
  · by_cases hq : q = 0
    · subst hq
      have hV0 : 0 ≤ M * V := Int.mul_nonneg (by omega) (by omega)
      have : 0 ≤ M * U := Int.mul_nonneg (by omega) (by omega)
      omega
    · have h1 : M * ((q - 1) * V + (q - 1)) ≤ M * U := Int.mul_le_mul_of_nonneg_left (by rw [Int.sub_mul, Int.one_mul]; omega) (by omega)
      have h2 : (q - 1) * lo ≤ (q - 1) * M := Int.mul_le_mul_of_nonneg_left (by omega) (by omega)
      have e : (q - 1) * D = (q - 1) * lo + M * ((q - 1) * V) := by rw [hD]; grind
      have e2 : M * ((q - 1) * V + (q - 1)) = M * ((q - 1) * V) + (q - 1) * M := by grind
      omega

theorem val_drop (w : Nat) (xs : List Int) (k : Nat) (hk : k ≤ xs.length) : val w xs = val w (xs.take k) + (2 ^ w) ^ k * val w (xs.drop k) := by
  have h := val_append w (xs.take k) (xs.drop k)
  rw [List.take_append_drop, List.length_take, Nat.min_eq_left hk] at h
  exact h
theorem take_eq_of {xs ys : List Int} {k : Nat} (hl : xs.length = ys.length) (h : ∀ i, i < k → xs.getD i 0 = ys.getD i 0) : xs.take k = ys.take k := by
  apply List.ext_getElem
  · simp [hl]
  · intro i h1 h2
    simp only [List.length_take] at h1 h2
    have := h i (by omega)
    simp only [List.getElem_take]
    have a1 : i < xs.length := by omega
    have a2 : i < ys.length := by omega
    simpa [List.getD, a1, a2] using this
theorem drop_eq_of {xs ys : List Int} {k : Nat} (hl : xs.length = ys.length) (h : ∀ i, k ≤ i → xs.getD i 0 = ys.getD i 0) : xs.drop k = ys.drop k := by
  apply List.ext_getElem
  · simp [hl]
  · intro i h1 h2
    simp only [List.length_drop] at h1 h2
    have := h (k + i) (by omega)
    simp only [List.getElem_drop]
    have a1 : k + i < xs.length := by omega
    have a2 : k + i < ys.length := by omega
    simpa [List.getD, a1, a2] using this

/-- a change of a window is a change of the number above its foot -/
theorem window {w : Nat} {xs ys : List Int} {k : Nat} {t : Int} (hl : xs.length = ys.length) (hk : k ≤ xs.length) (h : ∀ i, i < k → ys.getD i 0 = xs.getD i 0) (hv : val w ys = val w xs + (2 ^ w) ^ k * t) : val w (ys.drop k) = val w (xs.drop k) + t := by
  have e := take_eq_of (k := k) hl.symm h
  rw [val_drop w xs k hk, val_drop w ys k (by omega), e] at hv
  have hp : (0 : Int) < (2 ^ w) ^ k := Int.pow_pos (pw_pos w)
  have : (2 ^ w) ^ k * val w (ys.drop k) = (2 ^ w) ^ k * (val w (xs.drop k) + t) := by rw [Int.mul_add]; omega
  exact Int.eq_of_mul_eq_mul_left (by omega) this
theorem three {xs : List Int} {k : Nat} (hk : k + 2 < xs.length) : (xs.drop k).take 3 = [xs.getD k 0, xs.getD (k + 1) 0, xs.getD (k + 2) 0] := by
  rw [drop_getD (by omega), drop_getD (by omega : k + 1 < xs.length), drop_getD (by omega : k + 1 + 1 < xs.length)]
  rfl
theorem val_top {w : Nat} {xs : List Int} {m : Nat} (hm : m + 2 = xs.length) : val w xs = val w (xs.take m) + (2 ^ w) ^ m * (xs.getD (m + 1) 0 * 2 ^ w + xs.getD m 0) := by
  rw [val_drop w xs m (by omega), drop_getD (by omega : m < xs.length), drop_getD (by omega : m + 1 < xs.length), List.drop_of_length_le (by omega)]
  simp only [val]
  grind

def SRows : Spec := fun vs σ K => ∃ r b w R ds, vs = [.ref r, .ref b, .int ((w : Nat) : Int)] ∧ b ≠ r ∧ 1 ≤ w ∧ w ≤ 30 ∧ σ r = some (LI R) ∧ σ b = some (LI ds) ∧ Dig w R ∧ Dig w ds ∧
  2 ≤ ds.length ∧ ds.length ≤ R.length ∧ R.length ≤ 400 ∧ ds.getD (ds.length - 1) 0 ≠ 0 ∧ val w (R.drop (R.length - ds.length)) < val w ds ∧
  ∀ Qs R' qa σ', LeBut r σ σ' → σ qa = none → σ' qa = some (LI Qs) → σ' r = some (LI R') → Qs.length ≤ 400 → R'.length = R.length → Dig w Qs → Dig w R' →
    val w R = val w Qs * val w ds + val w R' → val w R' < val w ds → K (.ref qa) σ'

set_option maxHeartbeats 8000000 in
theorem con_rows (C : Cx) : Con C 2 (defAt 35) SRows := by
  refine Con.mk ["rest", "b", "w"] rfl defOk35 (by decide) ?_
  rintro g L q a cd A vs σ Q G room ⟨lr, lb, w, R, ds, rfl, hne, hw, hw2, hr, hb, hR, hds, hm2, hmR, hmax, htop, hini, ret⟩
  refine ⟨rfl, ?_⟩
  have hp := pw_pos w
  have hp2 := pw_ge2 hw
  have hp60 := pw_lt64 (show w ≤ 60 by omega)
  obtain ⟨m, hm⟩ : ∃ m, m + 2 = ds.length := ⟨ds.length - 2, by omega⟩
  have e1 : (R.length : Int) - (ds.length : Int) = ((R.length - ds.length : Nat) : Int) := by omega
  ((conv in (dBody _) => whnf); (conv in (dScope _) => whnf); (try dsimp only [List.zip_cons_cons, List.zip_nil_left]))
  walk_at "m.x"
  repeat walk_at "m.e"
  walk_at "m.x"
  repeat walk_at "m.e"
  intro z hz
  repeat walk_at "m.e"
  rw [e1]
  repeat walk_at "m.e"
  intro f hf
  have le0 := Le.upd (o := LI [0]) (Le.refl σ) hz
  have hfσ : σ f = none := le_none le0 hf
  have le1 := Le.upd (o := LI (List.replicate (R.length - ds.length) 0)) le0 hfσ
  have hfr : f ≠ lr := fun e => by rw [e, hr] at hfσ; cases hfσ
  have hfb : f ≠ lb := fun e => by rw [e, hb] at hfσ; cases hfσ
  refine X_ForDown (ι := List Int × List Int) (envOk_mk rfl) G room.handled (R.length - ds.length)
    (fun _ j => [(Str.ofString "rest", .ref lr), (Str.ofString "b", .ref lb), (Str.ofString "w", .int (w : Int)), (Str.ofString "size", .int (ds.length : Int)), (Str.ofString "quotient", .ref f)])
    (fun k j σ' => LeBut lr σ σ' ∧ σ' lr = some (LI j.2) ∧ σ' f = some (LI j.1) ∧ j.1.length = R.length - ds.length ∧ j.2.length = R.length ∧ Dig w j.1 ∧ Dig w j.2 ∧ val w (j.2.drop k) < val w ds ∧
      val w R = val w j.2 + val w ds * ((2 ^ w) ^ k * val w (j.1.drop k))) (List.replicate (R.length - ds.length) 0, R)
    rfl rfl rfl rfl (fun _ _ => rfl) (fun _ => rfl) (by omega) ?_ ?_ ?_
  · repeat walk_at "m.e"
    rw [e1]
    refine ⟨rfl, by (repeat' first | (with_reducible exact Sub.refl _) | (with_reducible exact Sub.nil _) | (with_reducible refine' Sub.cons ?_ ?_) | rfl), (LeBut.refl _ _).le le1, le1 _ _ hr, by walk_at "k.H", by simp, rfl, Dig.zeros w _, hR, hini, ?_⟩
    rw [List.drop_of_length_le (by simp)]; simp [val]
  · rintro k ⟨qs, rs⟩ σ' g' hk ⟨hle', hr', hf', hlq, hlr, hdq, hdr, hlt, hv⟩ G'
    dsimp only at hr' hf' hlq hlr hdq hdr hlt hv
    have hb' := hle' _ _ hne hb
    have a0 := hdr.getD (k + m)
    have a1 := hdr.getD (k + m + 1)
    have a2 := hdr.getD (k + m + 2)
    have b1 := hds.getD (m + 1)
    have b0 := hds.getD m
    have htop' : ds.getD (m + 1) 0 ≠ 0 := by rw [← hm] at htop; exact htop
    generalize hu0 : rs.getD (k + m) 0 = u0 at *
    generalize hu1 : rs.getD (k + m + 1) 0 = u1 at *
    generalize hu2 : rs.getD (k + m + 2) 0 = u2 at *
    generalize hv1 : ds.getD (m + 1) 0 = v1 at *
    generalize hv0 : ds.getD m 0 = v2 at *
    walk_at "m.x"
    refine WE_callG (k := 32) (con_guess C) (envOk_mk rfl) G' (room.less (by decide)) (by decide) rfl ?_ rfl rfl rfl
    repeat walk_at "m.e"
    refine cutK_run hr' (by omega) (by omega) (by omega) (by omega) ?_
    intro c hc
    have ec : ((rs.drop ((k : Int) + (ds.length : Int) - 2).toNat).take (((k : Int) + (ds.length : Int) + 1).toNat - ((k : Int) + (ds.length : Int) - 2).toNat)) = [u0, u1, u2] := by
      have h1 : ((k : Int) + (ds.length : Int) - 2).toNat = k + m := by omega
      have h2 : ((k : Int) + (ds.length : Int) + 1).toNat - (k + m) = 3 := by omega
      rw [h1, h2, three (by omega), hu0, hu1, hu2]
    rw [ec] at *
    repeat walk_at "m.e"
    have ev1 : ds.getD ((ds.length : Int) - 1).toNat 0 = v1 := by
      have h1 : ((ds.length : Int) - 1).toNat = m + 1 := by omega
      rw [h1, hv1]
    have ev0 : ds.getD ((ds.length : Int) - 2).toNat 0 = v2 := by
      have h1 : ((ds.length : Int) - 2).toNat = m := by omega
      rw [h1, hv0]
    rw [ev1, ev0]
    refine ⟨c, w, u0, u1, u2, v1, v2, rfl, hw, hw2, upd_same _ _ _, Dig.cons a0.1 a0.2 (Dig.cons a1.1 a1.2 (Dig.cons a2.1 a2.2 (Dig.nil w))), by omega, b1.2, b0.1, b0.2, ?_⟩
    intro q' σ₁ hle₁ hq0 hq1 hqV hst
    have leC : Le σ' σ₁ := (Le.upd (o := LI [u0, u1, u2]) (Le.refl σ') hc).trans hle₁
    -- the numbers
    have hkm : k + ds.length + 1 ≤ rs.length := by omega
    have hD := val_top (w := w) (xs := ds) hm
    rw [hv1, hv0] at hD
    have hDlo0 := val_nonneg (hds.take m)
    have hDlo := val_lt (hds.take m)
    rw [List.length_take, Nat.min_eq_left (by omega)] at hDlo
    have hDB := val_lt hds
    have hup : val w (rs.drop (k + (ds.length + 1))) = 0 := by
      have h1 := val_drop w (rs.drop (k + 1)) ds.length (by simp; omega)
      rw [List.drop_drop] at h1
      have e : k + 1 + ds.length = k + (ds.length + 1) := by omega
      rw [e] at h1
      have h2 := val_nonneg ((hdr.drop (k + 1)).take ds.length)
      have h3 := val_nonneg (hdr.drop (k + (ds.length + 1)))
      by_cases h4 : val w (rs.drop (k + (ds.length + 1))) = 0
      · exact h4
      · have h5 : (2 ^ w) ^ ds.length * 1 ≤ (2 ^ w) ^ ds.length * val w (rs.drop (k + (ds.length + 1))) := Int.mul_le_mul_of_nonneg_left (by omega) (Int.le_of_lt (Int.pow_pos hp))
        omega
    have hT : val w (rs.drop k) = val w ((rs.drop k).take m) + (2 ^ w) ^ m * ((u2 * 2 ^ w + u1) * 2 ^ w + u0) := by
      have h1 := val_drop w (rs.drop k) m (by simp; omega)
      rw [List.drop_drop, drop_getD (by omega : k + m < rs.length), drop_getD (by omega : k + m + 1 < rs.length), drop_getD (by omega : k + m + 1 + 1 < rs.length)] at h1
      have e : k + m + 1 + 1 + 1 = k + (ds.length + 1) := by omega
      simp only [val, e, hup, hu0, hu1] at h1
      have hu2' : rs.getD (k + m + 1 + 1) 0 = u2 := hu2
      rw [hu2'] at h1
      rw [h1]
      grind
    have hTlo0 := val_nonneg ((hdr.drop k).take m)
    have hTlo := val_lt ((hdr.drop k).take m)
    rw [List.length_take, Nat.min_eq_left (by simp; omega)] at hTlo
    have hTs : val w (rs.drop k) = rs.getD k 0 + 2 ^ w * val w (rs.drop (k + 1)) := by rw [drop_getD (by omega : k < rs.length)]; rfl
    have hT0 := val_nonneg (hdr.drop k)
    have hTD : val w (rs.drop k) < 2 ^ w * val w ds := by
      have h1 := (hdr.getD k).2
      have h2 : 2 ^ w * (val w (rs.drop (k + 1)) + 1) ≤ 2 ^ w * val w ds := Int.mul_le_mul_of_nonneg_left (by omega) (Int.le_of_lt hp)
      rw [Int.mul_add, Int.mul_one] at h2
      omega
    have hM : (1 : Int) ≤ (2 ^ w) ^ m := by have : (0 : Int) < (2 ^ w) ^ m := Int.pow_pos hp; omega
    have hV : (2 : Int) ^ w ≤ v1 * 2 ^ w + v2 := by
      have : 1 * (2 : Int) ^ w ≤ v1 * 2 ^ w := Int.mul_le_mul_of_nonneg_right (by omega) (Int.le_of_lt hp)
      omega
    obtain ⟨hA, hB⟩ := rows_pure hp2 hM hD hDlo0 hDlo hT hTlo0 hTlo hV hq0 hq1 hqV hst hTD
    have hd0 : 0 ≤ val w ds := val_nonneg hds
    have hpm : (0 : Int) < (2 ^ w) ^ (ds.length + 1) := Int.pow_pos hp
    have hDm : val w ds < (2 ^ w) ^ (ds.length + 1) := by
      rw [Int.pow_succ]
      have : ((2 : Int) ^ w) ^ ds.length * 1 ≤ (2 ^ w) ^ ds.length * 2 ^ w := Int.mul_le_mul_of_nonneg_left (by omega) (Int.le_of_lt (Int.pow_pos hp))
      omega
    have bound : ∀ xs : List Int, Dig w xs → xs.length = rs.length → (∀ i, k + ds.length < i → xs.getD i 0 = rs.getD i 0) → 0 ≤ val w (xs.drop k) ∧ val w (xs.drop k) < (2 ^ w) ^ (ds.length + 1) := by
      intro xs hx hlx hux
      have h1 := val_drop w (xs.drop k) (ds.length + 1) (by simp; omega)
      rw [List.drop_drop, drop_eq_of hlx (k := k + (ds.length + 1)) (fun i hi => hux i (by omega)), hup] at h1
      have h2 := val_nonneg ((hx.drop k).take (ds.length + 1))
      have h3 := val_lt ((hx.drop k).take (ds.length + 1))
      rw [List.length_take, Nat.min_eq_left (by simp; omega)] at h3
      omega
    -- the end of the turn
    have fin : ∀ (xs : List Int) (l : Int) (σ₂ : ST), LeBut lr σ₁ σ₂ → σ₂ lr = some (LI xs) → Dig w xs → xs.length = rs.length → (∀ i, i < k ∨ k + ds.length < i → xs.getD i 0 = rs.getD i 0) → 0 ≤ l → l < 2 ^ w →
        val w (xs.drop k) = val w (rs.drop k) - l * val w ds → 0 ≤ val w (rs.drop k) - l * val w ds → val w (rs.drop k) - l * val w ds < val w ds → val w xs = val w rs - (2 ^ w) ^ k * l * val w ds →
        LeBut lr σ (upd σ₂ f (LI (qs.set k l))) ∧ upd σ₂ f (LI (qs.set k l)) lr = some (LI xs) ∧ (qs.set k l).length = R.length - ds.length ∧ xs.length = R.length ∧ Dig w (qs.set k l) ∧ Dig w xs ∧ val w (xs.drop k) < val w ds ∧
          val w R = val w xs + val w ds * ((2 ^ w) ^ k * val w ((qs.set k l).drop k)) := by
      intro xs l σ₂ hl2 hx2 hdx hlx hux hl0 hl1 hw1 hw2' hw3 hvx
      refine ⟨?_, ?_, by simpa using hlq, by omega, hdq.set k hl0 hl1, hdx, by omega, ?_⟩
      · have h1 := LeBut.trans (hle'.le leC) hl2
        intro a o ha e
        by_cases hf2 : a = f
        · rw [hf2, hfσ] at e; cases e
        · rw [upd_ne hf2]; exact h1 a o ha e
      · rw [upd_ne (Ne.symm hfr)]; exact hx2
      · rw [drop_set (by omega : k < qs.length), hv, hvx, Int.pow_succ]
        simp only [val]
        generalize val w ds = D at *
        generalize val w (qs.drop (k + 1)) = Y at *
        generalize ((2 : Int) ^ w) ^ k = P at *
        generalize (2 : Int) ^ w = B at *
        grind
    have hr₁ := leC _ _ hr'
    have hb₁ := leC _ _ hb'
    have hf₁ := leC _ _ hf'
    refine X_IfJoin (fun m₂ σ₂ => ∃ (xs : List Int) (l : Int), Sub [(Str.ofString "rest", .ref lr), (Str.ofString "b", .ref lb), (Str.ofString "w", .int (w : Int)), (Str.ofString "size", .int (ds.length : Int)), (Str.ofString "quotient", .ref f), (Str.ofString "at", .int (k : Int)), (Str.ofString "limb", .int l)] m₂ ∧
      LeBut lr σ₁ σ₂ ∧ σ₂ lr = some (LI xs) ∧ Dig w xs ∧ xs.length = rs.length ∧ (∀ i, i < k ∨ k + ds.length < i → xs.getD i 0 = rs.getD i 0) ∧ 0 ≤ l ∧ l < 2 ^ w ∧
        val w (xs.drop k) = val w (rs.drop k) - l * val w ds ∧ 0 ≤ val w (rs.drop k) - l * val w ds ∧ val w (rs.drop k) - l * val w ds < val w ds ∧ val w xs = val w rs - (2 ^ w) ^ k * l * val w ds) ?_ ?_
    · walk_at "m.e"
      refine WE_callG (k := 33) (con_take C) (envOk_mk rfl) G' (room.less (by decide)) (by decide) rfl ?_ rfl rfl rfl
      repeat walk_at "m.e"
      refine ⟨lr, lb, w, q', k, rs, ds, rfl, hne, hw, hw2, hr₁, hb₁, hdr, hds, hq0, by omega, by omega, by omega, ?_⟩
      intro xs bw σ₂ hl₂ hx₂ hlx hdx hux hbw hvx
      have hwx : val w (xs.drop k) = val w (rs.drop k) + (bw * (2 ^ w) ^ (ds.length + 1) - q' * val w ds) := by
        refine window hlx.symm (by omega) (fun i hi => hux i (.inl hi)) ?_
        have e : k + ds.length + 1 = k + (ds.length + 1) := by omega
        rw [hvx, e, Int.pow_add]
        generalize ((2 : Int) ^ w) ^ (ds.length + 1) = P at *
        generalize ((2 : Int) ^ w) ^ k = P' at *
        grind
      have hbx := bound xs hdx hlx (fun i hi => hux i (.inr hi))
      repeat walk_at "m.e"
      refine if_dec (fun h => ?_) (fun h => ?_)
      · subst h
        have hneg : val w (rs.drop k) < q' * val w ds := by omega
        have hq1' : 1 ≤ q' := by
          by_cases h0 : q' = 0
          · rw [h0] at hneg; omega
          · omega
        walk_at "m.x"
        repeat walk_at "m.e"
        refine X_ExprNone rfl rfl ?_
        refine WE_callG (k := 34) (con_put C) (envOk_mk rfl) G' (room.less (by decide)) (by decide) rfl ?_ rfl rfl rfl
        repeat walk_at "m.e"
        refine ⟨lr, lb, w, k, xs, ds, rfl, hne, hw, hw2, hx₂, hl₂ _ _ hne hb₁, hdx, hds, by omega, by omega, ?_⟩
        intro ys bw2 σ₃ hl₃ hy₃ hly hdy huy hbw2 hvy
        have hwy : val w (ys.drop k) = val w (xs.drop k) + (val w ds - bw2 * (2 ^ w) ^ (ds.length + 1)) := by
          refine window hly.symm (by omega) (fun i hi => huy i (.inl hi)) ?_
          have e : k + ds.length + 1 = k + (ds.length + 1) := by omega
          rw [hvy, e, Int.pow_add]
          generalize ((2 : Int) ^ w) ^ (ds.length + 1) = P at *
          generalize ((2 : Int) ^ w) ^ k = P' at *
          grind
        have huy' : ∀ i, i < k ∨ k + ds.length < i → ys.getD i 0 = rs.getD i 0 := fun i hi => (huy i hi).trans (hux i hi)
        have hby := bound ys hdy (by omega) (fun i hi => huy' i (.inr hi))
        have hq1D : (q' - 1) * val w ds = q' * val w ds - val w ds := by rw [Int.sub_mul, Int.one_mul]
        have hbw2' : bw2 = 1 := by
          rcases hbw2 with h | h
          · exfalso
            rw [h] at hwy
            omega
          · exact h
        subst hbw2'
        refine ⟨rfl, ?_⟩
        repeat walk_at "m.x"
        refine ⟨rfl, ys, q' - 1, by (repeat' first | (with_reducible exact Sub.refl _) | (with_reducible exact Sub.nil _) | (with_reducible refine' Sub.cons ?_ ?_) | rfl), hl₂.trans hl₃, hy₃, hdy, by omega, huy', by omega, by omega, by omega, by omega, by omega, ?_⟩
        rw [hvy, hvx]
        grind
      · have hbw' : bw = 0 := by omega
        subst hbw'
        repeat walk_at "m.x"
        have hq1D : (q' + 1) * val w ds = q' * val w ds + val w ds := by rw [Int.add_mul, Int.one_mul]
        refine ⟨rfl, xs, q', by (repeat' first | (with_reducible exact Sub.refl _) | (with_reducible exact Sub.nil _) | (with_reducible refine' Sub.cons ?_ ?_) | rfl), hl₂, hx₂, hdx, hlx, hux, hq0, by omega, by omega, by omega, by omega, ?_⟩
        rw [hvx]; simp
    · rintro m₂ σ₂ ⟨xs, l, hsub, hl₂, hx₂, hdx, hlx, hux, hl0, hl1, hw1, hw2', hw3, hvx⟩
      refine W_sub hsub ?_
      change X _ _ _ _ _ _ _ _ _ _
      have hf₂ : σ₂ f = some (LI qs) := hl₂ _ _ hfr hf₁
      obtain ⟨r1, r2, r3, r4, r5, r6, r7, r8⟩ := fin xs l σ₂ hl₂ hx₂ hdx hlx hux hl0 hl1 hw1 hw2' hw3 hvx
      walk_at "m.x"
      repeat walk_at "m.e"
      walk_at "m.x"
      walk_at "m.x"
      exact ⟨(_, xs), by (repeat' first | (with_reducible exact Sub.refl _) | (with_reducible exact Sub.nil _) | (with_reducible refine' Sub.cons ?_ ?_) | rfl), r1, r2, upd_same _ _ _, r3, r4, r5, r6, r7, r8⟩
  · rintro ⟨qs, rs⟩ σ' ⟨hle', hr', hf', hlq, hlr, hdq, hdr, hlt, hv⟩
    dsimp only at hr' hf' hlq hlr hdq hdr hlt hv
    rw [List.drop_zero] at hlt
    rw [List.drop_zero] at hv
    walk_at "m.x"
    repeat walk_at "m.e"
    refine ret qs rs f σ' hle' hfσ hf' hr' (by omega) hlr hdq hdr ?_ hlt
    rw [hv]; simp; grind

theorem defOk36 : DefOk (defAt 36) := ⟨by decide, by decide, rfl, rfl, rfl, fun vals _ _ _ _ _ h => by
  obtain ⟨a, b, c, rfl⟩ := len3 h
  rfl⟩

theorem intBits_pos {t : Int} {w : Nat} (h0 : 0 < t) (h1 : t < 2 ^ w) : 1 ≤ Builtin.Int.intBits t ∧ Builtin.Int.intBits t ≤ w ∧ t < 2 ^ Builtin.Int.intBits t := by
  obtain ⟨n, rfl⟩ := Int.eq_ofNat_of_zero_le (Int.le_of_lt h0)
  have hn : n ≠ 0 := by omega
  have hb : Builtin.Int.intBits (n : Int) = n.log2 + 1 := by
    unfold Builtin.Int.intBits
    have : ((n : Int) == 0) = false := by simp; omega
    rw [this]; simp
  rw [hb]
  have hw : n < 2 ^ w := by rw [← pw_nat] at h1; exact Int.ofNat_lt.mp h1
  refine ⟨by omega, ?_, ?_⟩
  · have := (Nat.log2_lt hn).mpr hw; omega
  · rw [← pw_nat]; exact Int.ofNat_lt.mpr (Nat.lt_log2_self)

theorem limbs_len_mono {w : Nat} (hw : 1 ≤ w) {a b : Nat} (h : a ≤ b) : (limbs w a).length ≤ (limbs w b).length := by
  by_cases hl : (limbs w b).length < (limbs w a).length
  · have := limbs_len_lt hw hl; omega
  · omega
theorem limbs_lt_pow {w : Nat} (hw : 1 ≤ w) (n : Nat) : n < (2 ^ w) ^ (limbs w n).length := by
  have := val_lt (limbs_dig hw n)
  rw [limbs_val hw] at this
  have e : (((2 ^ w) ^ (limbs w n).length : Nat) : Int) = (2 ^ w) ^ (limbs w n).length := by push_cast; rfl
  omega
theorem limbs_ge_pow {w : Nat} (hw : 1 ≤ w) {n : Nat} (h : n ≠ 0) : (2 ^ w) ^ ((limbs w n).length - 1) ≤ n := by
  have h1 : limbs w n ≠ [] := fun e => h ((limbs_nil hw).mp e)
  have := val_ge (limbs_dig hw n) (limbs_nrm hw n) h1
  rw [limbs_val hw] at this
  have e : (((2 ^ w) ^ ((limbs w n).length - 1) : Nat) : Int) = (2 ^ w) ^ ((limbs w n).length - 1) := by push_cast; rfl
  omega

/-- the shift that brings the top limb up leaves the length -/
theorem shift_len {w y s m : Nat} {t : Int} (hw : 1 ≤ w) (hm : (limbs w y).length = m + 1) (ht : (limbs w y).getD m 0 = t) {k : Nat} (hk : t < 2 ^ k) (hs : s + k = w) : (limbs w (y * 2 ^ s)).length = m + 1 := by
  have hpos : 0 < 2 ^ s := Nat.pow_pos (by decide)
  have h1 : y < 2 ^ k * (2 ^ w) ^ m := by
    have e := val_split w (xs := limbs w y) (k := m) (by omega)
    rw [limbs_val hw, ht, List.drop_of_length_le (by omega)] at e
    simp only [val, Int.mul_zero, Int.add_zero] at e
    have a := val_lt ((limbs_dig hw y).take m)
    rw [List.length_take, Nat.min_eq_left (by omega)] at a
    have b : ((2 : Int) ^ w) ^ m * (t + 1) ≤ (2 ^ w) ^ m * 2 ^ k := Int.mul_le_mul_of_nonneg_left (by omega) (Int.le_of_lt (Int.pow_pos (pw_pos w)))
    rw [Int.mul_add, Int.mul_one] at b
    have e2 : ((2 ^ k * (2 ^ w) ^ m : Nat) : Int) = (2 ^ w) ^ m * 2 ^ k := by push_cast; rw [Int.mul_comm]
    omega
  have h2 : y * 2 ^ s < (2 ^ w) ^ (m + 1) := by
    have h3 : y * 2 ^ s < 2 ^ k * (2 ^ w) ^ m * 2 ^ s := Nat.mul_lt_mul_of_pos_right h1 hpos
    have e : 2 ^ k * (2 ^ w) ^ m * 2 ^ s = (2 ^ w) ^ (m + 1) := by
      rw [Nat.pow_succ, Nat.mul_comm (2 ^ k), Nat.mul_assoc, ← Nat.pow_add]
      congr 2; omega
    rw [e] at h3; exact h3
  have h4 := limbs_len hw h2
  have h5 := limbs_len_mono hw (show y ≤ y * 2 ^ s from Nat.le_mul_of_pos_right y hpos)
  omega

def SDivrem : Spec := fun vs σ K => ∃ a b w x y, vs = [.ref a, .ref b, .int ((w : Nat) : Int)] ∧ 1 ≤ w ∧ w ≤ 30 ∧ x < 2 ^ 64 ∧ 0 < y ∧ y < 2 ^ 64 ∧ σ a = some (LI (limbs w x)) ∧ σ b = some (LI (limbs w y)) ∧ RetDiv w σ K (x / y) (x % y)

theorem mul_pow_lt {x s w : Nat} (hx : x < 2 ^ 64) (hs : s < w) (hw : w ≤ 30) : x * 2 ^ s < 2 ^ 100 := by
  have h1 : 2 ^ s ≤ 2 ^ 30 := Nat.pow_le_pow_right (by decide) (by omega)
  have h2 : x * 2 ^ s ≤ 2 ^ 64 * 2 ^ 30 := Nat.mul_le_mul (by omega) h1
  have h3 : (2 : Nat) ^ 64 * 2 ^ 30 < 2 ^ 100 := by decide
  omega

set_option maxHeartbeats 8000000 in
theorem con_divrem (C : Cx) : Con C 4 (defAt 36) SDivrem := by
  refine Con.mk ["a", "b", "w"] rfl defOk36 (by decide) ?_
  rintro g L q a cd A vs σ Q G room ⟨la, lb, w, x, y, rfl, hw, hw2, hx, hy0, hy, ha, hb, ret⟩
  refine ⟨rfl, ?_⟩
  have lx := limbs_short hw hx
  have ly := limbs_short hw hy
  have hp := pw_pos w
  have hp60 := pw_lt64 (show w ≤ 60 by omega)
  ((conv in (dBody _) => whnf); (conv in (dScope _) => whnf); (try dsimp only [List.zip_cons_cons, List.zip_nil_left]))
  walk_at "m.x"
  repeat walk_at "m.e"
  refine if_dec (fun h => ?_) (fun h => ?_)
  · exfalso
    have := (limbs_nil hw (n := y)).mp (List.length_eq_zero_iff.mp (by omega))
    omega
  repeat walk_at "m.x"
  walk_at "m.e"
  refine WE_callG (k := 5) (con_compare C) (envOk_mk rfl) G (room.less (by decide)) (by decide) rfl ?_ rfl rfl rfl
  repeat walk_at "m.e"
  refine ⟨la, lb, w, x, y, rfl, hw, hx, hy, ha, hb, ?_⟩
  repeat walk_at "m.e"
  refine if_dec (fun h2 => ?_) (fun h2 => ?_)
  · have hxy : x < y := by
      rw [cmpN] at h2; split at h2
      · assumption
      · split at h2 <;> omega
    walk_at "m.x"
    repeat walk_at "m.e"
    intro u hu
    repeat walk_at "m.e"
    intro v hv
    repeat walk_at "m.e"
    intro t ht
    have l1 := Le.upd (o := LI []) (Le.refl σ) hu
    have l2 := Le.upd (o := LI (limbs w x)) l1 (le_none l1 hv)
    refine ret t u v _ (Le.upd l2 (le_none l2 ht)) (upd_same _ _ _) ?_ ?_
    · rw [Nat.div_eq_of_lt hxy]
      exact upd_fresh ht (upd_fresh hv (upd_same _ _ _))
    · rw [Nat.mod_eq_of_lt hxy]
      exact upd_fresh ht (upd_same _ _ _)
  have hyx : y ≤ x := by
    rw [cmpN] at h2
    by_cases h : x < y
    · rw [if_pos h] at h2; omega
    · omega
  repeat walk_at "m.x"
  repeat walk_at "m.e"
  refine if_dec (fun h3 => ?_) (fun h3 => ?_)
  · walk_at "m.x"
    refine WE_callG (k := 31) (con_divrem_small C) (envOk_mk rfl) G room (by decide) rfl ?_ rfl rfl rfl
    repeat walk_at "m.e"
    have hyw : y < 2 ^ w := by
      have := limbs_lt_pow hw y
      have e : (limbs w y).length = 1 := by omega
      rw [e, Nat.pow_one] at this
      exact this
    exact ⟨la, lb, w, x, y, rfl, hw, hw2, hx, hy0, hyw, ha, hb, ret⟩
  obtain ⟨m, hm⟩ : ∃ m, (limbs w y).length = m + 1 := ⟨(limbs w y).length - 1, by omega⟩
  have hm1 : 1 ≤ m := by omega
  generalize ht : (limbs w y).getD m 0 = t at *
  have htn : t ≠ 0 := by
    rcases limbs_nrm hw y with h4 | h4
    · rw [h4] at hm; simp at hm
    · rw [hm] at h4
      have e : m + 1 - 1 = m := by omega
      rw [e, ht] at h4; exact h4
  have htd := (limbs_dig hw y).getD m
  rw [ht] at htd
  obtain ⟨hk1, hk2, hk3⟩ := intBits_pos (show 0 < t by omega) htd.2
  obtain ⟨s, hs⟩ : ∃ s, s + Builtin.Int.intBits t = w := ⟨w - Builtin.Int.intBits t, by omega⟩
  have hsw : s < w := by omega
  have hpos : 0 < 2 ^ s := Nat.pow_pos (by decide)
  have hlen := shift_len hw hm ht hk3 hs
  repeat walk_at "m.x"
  walk_at "m.e"
  walk_at "m.e"
  refine WE_callG (k := 11) (con_bits C) (envOk_mk rfl) G (room.less (by decide)) (by decide) rfl ?_ rfl rfl rfl
  repeat walk_at "m.e"
  have e0 : (limbs w y).getD ((limbs w y).length - 1) 0 = t := by rw [hm]; exact ht
  rw [e0]
  intro b1 hb1
  repeat walk_at "m.e"
  refine ⟨b1, t, _, rfl, upd_same _ _ _, ?_⟩
  repeat walk_at "m.e"
  have e1 : (w : Int) - ((Builtin.Int.intBits t : Nat) : Int) = ((s : Nat) : Int) := by omega
  rw [e1]
  have l1 := Le.upd (o := LI [t]) (Le.refl σ) hb1
  have ha1 := l1 _ _ ha
  have hb2 := l1 _ _ hb
  generalize upd σ b1 (LI [t]) = σ1 at *
  walk_at "m.x"
  refine WE_callG (k := 9) (con_shift_left C) (envOk_mk rfl) G (room.less (by decide)) (by decide) rfl ?_ rfl rfl rfl
  repeat walk_at "m.e"
  refine ⟨lb, w, y, s, rfl, hw, hw2, hy, hsw, hb2, ?_⟩
  intro ld σ2 l2 hld hd2
  walk_at "m.x"
  refine WE_callG (k := 9) (con_shift_left C) (envOk_mk rfl) G (room.less (by decide)) (by decide) rfl ?_ rfl rfl rfl
  repeat walk_at "m.e"
  refine ⟨la, w, x, s, rfl, hw, hw2, hx, hsw, l2 _ _ ha1, ?_⟩
  intro lr σ3 l3 hlr hr3
  have hd3 := l3 _ _ hd2
  have ha3 := l3 _ _ (l2 _ _ ha1)
  have lxs := limbs_short2 hw (mul_pow_lt hx hsw hw2)
  have lmono := limbs_len_mono hw (show x ≤ x * 2 ^ s from Nat.le_mul_of_pos_right x hpos)
  have lup : (limbs w (x * 2 ^ s)).length ≤ (limbs w x).length + 1 := by
    refine limbs_len hw ?_
    rw [Nat.pow_succ]
    exact Nat.mul_lt_mul_of_lt_of_le (limbs_lt_pow hw x) (Nat.pow_le_pow_right (by decide) (by omega)) (Nat.pow_pos (by decide))
  have e2 : ((limbs w x).length : Int) + 1 - ((limbs w (x * 2 ^ s)).length : Int) = (((limbs w x).length + 1 - (limbs w (x * 2 ^ s)).length : Nat) : Int) := by omega
  walk_at "m.x"
  refine E_addList ?_
  repeat walk_at "m.e"
  intro z hz
  repeat walk_at "m.e"
  rw [e2]
  repeat walk_at "m.e"
  intro zs hzs
  have hr4 : upd (upd σ3 z (LI [0])) zs (LI (List.replicate ((limbs w x).length + 1 - (limbs w (x * 2 ^ s)).length) 0)) lr = some (LI (limbs w (x * 2 ^ s))) := upd_fresh hzs (upd_fresh hz hr3)
  refine catK hr4 (upd_same _ _ _) (by simp; omega) ?_
  intro rr hrr
  have l4 : Le σ3 (upd (upd (upd σ3 z (LI [0])) zs (LI (List.replicate ((limbs w x).length + 1 - (limbs w (x * 2 ^ s)).length) 0))) rr (LI (limbs w (x * 2 ^ s) ++ List.replicate ((limbs w x).length + 1 - (limbs w (x * 2 ^ s)).length) 0))) := by
    have a1 := Le.upd (o := LI [0]) (Le.refl σ3) hz
    have a2 := Le.upd (o := LI (List.replicate ((limbs w x).length + 1 - (limbs w (x * 2 ^ s)).length) 0)) a1 (le_none a1 hzs)
    exact Le.upd a2 (le_none a2 hrr)
  have hrr4 : upd (upd (upd σ3 z (LI [0])) zs (LI (List.replicate ((limbs w x).length + 1 - (limbs w (x * 2 ^ s)).length) 0))) rr (LI (limbs w (x * 2 ^ s) ++ List.replicate ((limbs w x).length + 1 - (limbs w (x * 2 ^ s)).length) 0)) rr = some (LI (limbs w (x * 2 ^ s) ++ List.replicate ((limbs w x).length + 1 - (limbs w (x * 2 ^ s)).length) 0)) := upd_same _ _ _
  have hrr0 : σ3 rr = none := by
    have a1 := Le.upd (o := LI [0]) (Le.refl σ3) hz
    have a2 := Le.upd (o := LI (List.replicate ((limbs w x).length + 1 - (limbs w (x * 2 ^ s)).length) 0)) a1 (le_none a1 hzs)
    exact le_none a2 hrr
  generalize upd (upd (upd σ3 z (LI [0])) zs (LI (List.replicate ((limbs w x).length + 1 - (limbs w (x * 2 ^ s)).length) 0))) rr (LI (limbs w (x * 2 ^ s) ++ List.replicate ((limbs w x).length + 1 - (limbs w (x * 2 ^ s)).length) 0)) = σ4 at *
  generalize hRR : limbs w (x * 2 ^ s) ++ List.replicate ((limbs w x).length + 1 - (limbs w (x * 2 ^ s)).length) 0 = R at *
  have hRl : R.length = (limbs w x).length + 1 := by rw [← hRR]; simp; omega
  have hRd : Dig w R := by rw [← hRR]; exact (limbs_dig hw _).append (Dig.zeros w _)
  have hRv : val w R = ((x * 2 ^ s : Nat) : Int) := by rw [← hRR, val_append, val_zeros, limbs_val hw]; simp
  have hdr : ld ≠ rr := fun e => by rw [e, hrr0] at hd3; cases hd3
  have hmn := limbs_len_mono hw hyx
  walk_at "m.x"
  refine WE_callG (k := 35) (con_rows C) (envOk_mk rfl) G (room.less (by decide)) (by decide) rfl ?_ rfl rfl rfl
  repeat walk_at "m.e"
  have hDv := limbs_val hw (y * 2 ^ s)
  refine ⟨rr, ld, w, R, limbs w (y * 2 ^ s), rfl, hdr, hw, hw2, hrr4, l4 _ _ hd3, hRd, limbs_dig hw _, by omega, by omega, by omega, ?_, ?_, ?_⟩
  · rcases limbs_nrm hw (y * 2 ^ s) with h4 | h4
    · rw [h4] at hlen; simp at hlen
    · exact h4
  · have h5 := val_drop w R (R.length - (limbs w (y * 2 ^ s)).length) (by omega)
    have h6 := val_nonneg (hRd.take (R.length - (limbs w (y * 2 ^ s)).length))
    have hge := limbs_ge_pow hw (show y ≠ 0 by omega)
    have hlt := limbs_lt_pow hw x
    have h7 : x * 2 ^ s < (y * 2 ^ s) * (2 ^ w) ^ (R.length - (limbs w (y * 2 ^ s)).length) := by
      have h8 : x < y * (2 ^ w) ^ (R.length - (limbs w (y * 2 ^ s)).length) := by
        have h9 : (2 ^ w) ^ ((limbs w y).length - 1) * (2 ^ w) ^ (R.length - (limbs w (y * 2 ^ s)).length) ≤ y * (2 ^ w) ^ (R.length - (limbs w (y * 2 ^ s)).length) := Nat.mul_le_mul_right _ hge
        rw [← Nat.pow_add] at h9
        have e : (limbs w y).length - 1 + (R.length - (limbs w (y * 2 ^ s)).length) = (limbs w x).length := by omega
        rw [e] at h9
        omega
      have := Nat.mul_lt_mul_of_pos_right h8 hpos
      rw [Nat.mul_right_comm] at this
      exact this
    rw [hDv]
    rw [hRv] at h5
    have h8 := Int.ofNat_lt.mpr h7
    push_cast at h5 h8 ⊢
    by_cases h9 : val w (List.drop (R.length - (limbs w (y * 2 ^ s)).length) R) < (y : Int) * 2 ^ s
    · exact h9
    · exfalso
      have h10 : ((2 : Int) ^ w) ^ (R.length - (limbs w (y * 2 ^ s)).length) * ((y : Int) * 2 ^ s) ≤ (2 ^ w) ^ (R.length - (limbs w (y * 2 ^ s)).length) * val w (List.drop (R.length - (limbs w (y * 2 ^ s)).length) R) :=
        Int.mul_le_mul_of_nonneg_left (by omega) (Int.le_of_lt (Int.pow_pos hp))
      rw [Int.mul_comm ((2 ^ w) ^ (R.length - (limbs w (y * 2 ^ s)).length)) ((y : Int) * 2 ^ s)] at h10
      omega
  · intro Qs R' qa σ5 l5 hqa hq5 hr5 hQl hR'l hQd hR'd hval hlt
    rw [hDv, hRv] at hval
    rw [hDv] at hlt
    obtain ⟨Qn, hQn⟩ := Int.eq_ofNat_of_zero_le (val_nonneg hQd)
    obtain ⟨rn, hrn⟩ := Int.eq_ofNat_of_zero_le (val_nonneg hR'd)
    rw [hQn, hrn] at hval
    rw [hrn] at hlt
    have hvalN : x * 2 ^ s = Qn * (y * 2 ^ s) + rn := by exact_mod_cast hval
    have hltN : rn < y * 2 ^ s := by exact_mod_cast hlt
    have hq1 : Qn = x / y := by
      have h9 : (x * 2 ^ s) / (y * 2 ^ s) = Qn := by
        rw [hvalN, Nat.mul_comm, Nat.mul_add_div (by omega), Nat.div_eq_of_lt hltN]; omega
      rw [← h9, Nat.mul_div_mul_right _ _ hpos]
    have hr1 : rn = (x % y) * 2 ^ s := by
      have h9 : (x * 2 ^ s) % (y * 2 ^ s) = rn := by
        rw [hvalN, Nat.mul_comm, Nat.mul_add_mod, Nat.mod_eq_of_lt hltN]
      rw [← h9, Nat.mul_mod_mul_right]
    have lall : Le σ σ4 := (l1.trans l2).trans (l3.trans l4)
    have lall5 : Le σ σ5 := fun a o e => by
      by_cases har : a = rr
      · have := (l1.trans (l2.trans l3)) _ _ e
        rw [har, hrr0] at this; cases this
      · exact l5 a o har (lall _ _ e)
    walk_at "m.x"
    walk_at "m.e"
    walk_at "m.e"
    refine WE_callG (k := 4) (con_normal C) (envOk_mk rfl) G (room.less (by decide)) (by decide) rfl ?_ rfl rfl rfl
    repeat walk_at "m.e"
    refine ⟨qa, Qs, rfl, hq5, by omega, ?_⟩
    intro nq σ6 l6 hnq hnq6
    walk_at "m.e"
    refine WE_callG (k := 10) (con_shift_right C) (envOk_mk rfl) G (room.less (by decide)) (by decide) rfl ?_ rfl rfl rfl
    walk_at "m.e"
    refine WE_callG (k := 4) (con_normal C) (envOk_mk rfl) G (room.less (by decide)) (by decide) rfl ?_ rfl rfl rfl
    repeat walk_at "m.e"
    refine ⟨rr, R', rfl, l6 _ _ hr5, by omega, ?_⟩
    intro nr σ7 l7 hnr hnr7
    repeat walk_at "m.e"
    have hxy2 : x % y < 2 ^ 64 := Nat.lt_trans (Nat.mod_lt _ hy0) hy
    refine ⟨nr, w, (x % y) * 2 ^ s, s, rfl, hw, hw2, mul_pow_lt hxy2 hsw hw2, hsw, ?_, ?_⟩
    · rw [hnr7, strip_of hw hR'd hrn, hr1]
    · intro sr σ8 l8 hsr hsr8
      repeat walk_at "m.e"
      intro t' ht'
      have l9 : Le σ5 σ8 := (l6.trans l7).trans l8
      refine ret t' nq sr _ (Le.upd (lall5.trans l9) (le_none (lall5.trans l9) ht')) (upd_same _ _ _) ?_ ?_
      · rw [upd_fresh ht' (l8 _ _ (l7 _ _ hnq6)), strip_of hw hQd hQn, hq1]
      · rw [upd_fresh ht' hsr8, Nat.mul_div_cancel _ hpos]

theorem defOk13 : DefOk (defAt 13) := ⟨by decide, by decide, rfl, rfl, rfl, fun vals _ _ _ _ _ h => by
  obtain ⟨a, b, rfl⟩ := len2 h
  rfl⟩
theorem defOk14 : DefOk (defAt 14) := ⟨by decide, by decide, rfl, rfl, rfl, fun vals _ _ _ _ _ h => by
  obtain ⟨a, rfl⟩ := len1 h
  rfl⟩
theorem defOk15 : DefOk (defAt 15) := ⟨by decide, by decide, rfl, rfl, rfl, fun vals _ _ _ _ _ h => by
  obtain ⟨a, b, rfl⟩ := len2 h
  rfl⟩
theorem defOk16 : DefOk (defAt 16) := ⟨by decide, by decide, rfl, rfl, rfl, fun vals _ _ _ _ _ h => by
  obtain ⟨a, b, c, rfl⟩ := len3 h
  rfl⟩
theorem defOk17 : DefOk (defAt 17) := ⟨by decide, by decide, rfl, rfl, rfl, fun vals _ _ _ _ _ h => by
  obtain ⟨a, b, c, d, rfl⟩ := len4 h
  rfl⟩
theorem defOk21 : DefOk (defAt 21) := ⟨by decide, by decide, rfl, rfl, rfl, fun vals _ _ _ _ _ h => by
  obtain ⟨a, rfl⟩ := len1 h
  rfl⟩

/-- a number with a sign -/
def SG (σ : ST) (w : Nat) (a : Addr) (z : Int) : Prop := ∃ l, σ a = some (.tup [.bool (decide (z < 0)), .ref l]) ∧ σ l = some (LI (limbs w z.natAbs))
theorem SG.le {σ σ' : ST} {w : Nat} {a : Addr} {z : Int} (h : SG σ w a z) (hle : Le σ σ') : SG σ' w a z := let ⟨l, h1, h2⟩ := h; ⟨l, hle _ _ h1, hle _ _ h2⟩
def RetS (σ : ST) (w : Nat) (K : V → ST → Prop) (z : Int) : Prop := ∀ t σ', Le σ σ' → SG σ' w t z → K (.ref t) σ'
theorem RetS.up {σ σ' : ST} {w : Nat} {K : V → ST → Prop} {z : Int} (h : RetS σ w K z) (hle : Le σ σ') : RetS σ' w K z := fun t σ'' h1 h2 => h t σ'' (hle.trans h1) h2

def SSigned : Spec := fun vs σ K => ∃ b l ns, vs = [.bool b, .ref l] ∧ σ l = some (LI ns) ∧ ns.length ≤ 900 ∧ ∀ t σ', Le σ σ' → σ' t = some (.tup [.bool (b && decide (0 < ns.length)), .ref l]) → K (.ref t) σ'
def SSignedOf : Spec := fun vs σ K => ∃ l, vs = [.ref l] ∧ ∀ t σ', Le σ σ' → σ' t = some (.tup [.bool false, .ref l]) → K (.ref t) σ'
def SNeg : Spec := fun vs σ K => ∃ a w z, vs = [.ref a] ∧ 1 ≤ w ∧ z.natAbs < 2 ^ 64 ∧ SG σ w a z ∧ RetS σ w K (-z)
def SAddS : Spec := fun vs σ K => ∃ a b w x y, vs = [.ref a, .ref b, .int ((w : Nat) : Int)] ∧ 1 ≤ w ∧ w ≤ 30 ∧ x.natAbs < 2 ^ 64 ∧ y.natAbs < 2 ^ 64 ∧ SG σ w a x ∧ SG σ w b y ∧ RetS σ w K (x + y)
def SMulS (C : Cx) : Spec := fun vs σ K => ∃ a b w x y, vs = [.ref a, .ref b, .int ((w : Nat) : Int), .ref (fa C 30)] ∧ 1 ≤ w ∧ w ≤ 30 ∧ x.natAbs < 2 ^ 64 ∧ y.natAbs < 2 ^ 64 ∧ SG σ w a x ∧ SG σ w b y ∧ RetS σ w K (x * y)
def cmpZ (x y : Int) : Int := if x < y then -1 else if y < x then 1 else 0
def SCmpS : Spec := fun vs σ K => ∃ a b w x y, vs = [.ref a, .ref b] ∧ 1 ≤ w ∧ x.natAbs < 2 ^ 64 ∧ y.natAbs < 2 ^ 64 ∧ SG σ w a x ∧ SG σ w b y ∧ K (.int (cmpZ x y)) σ

theorem len_pos {w n : Nat} (hw : 1 ≤ w) : (0 < (limbs w n).length) ↔ n ≠ 0 := by
  rw [List.length_pos_iff, ne_eq, limbs_nil hw]

set_option maxHeartbeats 1000000 in
theorem con_signed (C : Cx) : Con C 1 (defAt 13) SSigned := by
  refine Con.mk ["is_below", "nat"] rfl defOk13 (by decide) ?_
  rintro g L q a cd A vs σ Q G room ⟨b, l, ns, rfl, hl, hz, ret⟩
  refine ⟨rfl, ?_⟩
  ((conv in (dBody _) => whnf); (conv in (dScope _) => whnf); (try dsimp only [List.zip_cons_cons, List.zip_nil_left]))
  walk_at "m.x"
  repeat walk_at "m.e"
  cases b with
  | false =>
    refine if_ff ?_
    repeat walk_at "m.e"
    intro t ht
    exact ret t _ (Le.upd (Le.refl _) ht) (by rw [upd_same]; simp)
  | true =>
    refine if_tt ?_
    repeat walk_at "m.e"
    intro t ht
    refine ret t _ (Le.upd (Le.refl _) ht) ?_
    rw [upd_same]
    have : decide (0 < (ns.length : Int)) = (true && decide (0 < ns.length)) := by
      rw [Bool.true_and]
      by_cases h : 0 < ns.length
      · simp [h]
      · (simp [h] <;> omega)
    rw [this]

theorem con_signed_of (C : Cx) : Con C 1 (defAt 21) SSignedOf := by
  refine Con.mk ["nat"] rfl defOk21 (by decide) ?_
  rintro g L q a cd A vs σ Q G room ⟨l, rfl, ret⟩
  refine ⟨rfl, ?_⟩
  ((conv in (dBody _) => whnf); (conv in (dScope _) => whnf); (try dsimp only [List.zip_cons_cons, List.zip_nil_left]))
  walk_at "m.x"
  repeat walk_at "m.e"
  intro t ht
  exact ret t _ (Le.upd (Le.refl _) ht) (upd_same _ _ _)

/-- a sign and a list make a number -/
theorem SG.mk {σ : ST} {w : Nat} {t l : Addr} {b : Bool} {z : Int} (hw : 1 ≤ w) (ht : σ t = some (.tup [.bool (b && decide (0 < (limbs w z.natAbs).length)), .ref l])) (hl : σ l = some (LI (limbs w z.natAbs))) (hb : z ≠ 0 → b = decide (z < 0)) : SG σ w t z := by
  refine ⟨l, ?_, hl⟩
  rw [ht]
  by_cases hz : z = 0
  · subst hz; simp [limbs_zero]
  · have h1 : 0 < (limbs w z.natAbs).length := (len_pos hw).mpr (by omega)
    rw [hb hz]; simp [h1]

set_option maxHeartbeats 1000000 in
theorem con_neg (C : Cx) : Con C 2 (defAt 14) SNeg := by
  refine Con.mk ["x"] rfl defOk14 (by decide) ?_
  rintro g L q a cd A vs σ Q G room ⟨la, w, z, rfl, hw, hz, ⟨l, h1, h2⟩, ret⟩
  refine ⟨rfl, ?_⟩
  have lz := limbs_short hw hz
  ((conv in (dBody _) => whnf); (conv in (dScope _) => whnf); (try dsimp only [List.zip_cons_cons, List.zip_nil_left]))
  walk_at "m.x"
  refine WE_callG (k := 13) (con_signed C) (envOk_mk rfl) G (room.less (by decide)) (by decide) rfl ?_ rfl rfl rfl
  repeat walk_at "m.e"
  refine ⟨_, l, _, rfl, h2, by omega, ?_⟩
  intro t σ' hle ht
  have en : (-z).natAbs = z.natAbs := Int.natAbs_neg z
  refine ret t σ' hle (SG.mk (b := !decide (z < 0)) hw (by rw [en]; exact ht) (by rw [en]; exact hle _ _ h2) fun hz0 => ?_)
  by_cases h : z < 0
  · (simp [h] <;> omega)
  · (simp [h] <;> omega)

set_option maxHeartbeats 2000000 in
theorem con_cmpS (C : Cx) : Con C 2 (defAt 15) SCmpS := by
  refine Con.mk ["x", "y"] rfl defOk15 (by decide) ?_
  rintro g L q a cd A vs σ Q G room ⟨la, lb, w, x, y, rfl, hw, hx, hy, ⟨l, h1, h2⟩, ⟨l', h1', h2'⟩, ret⟩
  refine ⟨rfl, ?_⟩
  ((conv in (dBody _) => whnf); (conv in (dScope _) => whnf); (try dsimp only [List.zip_cons_cons, List.zip_nil_left]))
  walk_at "m.x"
  repeat walk_at "m.e"
  by_cases hxn : x < 0
  · by_cases hyn : y < 0
    · rw [show (decide (x < 0) != decide (y < 0)) = false by simp [hxn, hyn]]
      repeat walk_at "m.x"
      (with_reducible refine' WE_IfExp ?_)
      repeat walk_at "m.e"
      refine if_dec (fun _ => ?_) (fun h => absurd hxn h)
      refine WE_callG (k := 5) (con_compare C) (envOk_mk rfl) G (room.less (by decide)) (by decide) rfl ?_ rfl rfl rfl
      repeat walk_at "m.e"
      refine ⟨l', l, w, y.natAbs, x.natAbs, rfl, hw, hy, hx, h2', h2, ?_⟩
      have : cmpN y.natAbs x.natAbs = cmpZ x y := by
        unfold cmpN cmpZ
        repeat' split
        all_goals omega
      rw [this]; exact ret
    · rw [show (decide (x < 0) != decide (y < 0)) = true by simp [hxn, hyn]]
      repeat walk_at "m.x"
      (with_reducible refine' WE_IfExp ?_)
      repeat walk_at "m.e"
      refine if_dec (fun _ => ?_) (fun h => absurd hxn h)
      repeat walk_at "m.e"
      rw [cmpZ, if_pos (by omega)] at ret
      exact ret
  · by_cases hyn : y < 0
    · rw [show (decide (x < 0) != decide (y < 0)) = true by simp [hxn, hyn]]
      repeat walk_at "m.x"
      (with_reducible refine' WE_IfExp ?_)
      repeat walk_at "m.e"
      refine if_dec (fun h => absurd h hxn) (fun _ => ?_)
      repeat walk_at "m.e"
      rw [cmpZ, if_neg (by omega), if_pos (by omega)] at ret
      exact ret
    · rw [show (decide (x < 0) != decide (y < 0)) = false by simp [hxn, hyn]]
      repeat walk_at "m.x"
      (with_reducible refine' WE_IfExp ?_)
      repeat walk_at "m.e"
      refine if_dec (fun h => absurd h hxn) (fun _ => ?_)
      refine WE_callG (k := 5) (con_compare C) (envOk_mk rfl) G (room.less (by decide)) (by decide) rfl ?_ rfl rfl rfl
      repeat walk_at "m.e"
      refine ⟨l, l', w, x.natAbs, y.natAbs, rfl, hw, hx, hy, h2, h2', ?_⟩
      have : cmpN x.natAbs y.natAbs = cmpZ x y := by
        unfold cmpN cmpZ
        repeat' split
        all_goals omega
      rw [this]; exact ret

set_option maxHeartbeats 2000000 in
theorem con_mulS (C : Cx) : Con C 3 (defAt 17) (SMulS C) := by
  refine Con.mk ["x", "y", "w", "mul"] rfl defOk17 (by decide) ?_
  rintro g L q a cd A vs σ Q G room ⟨la, lb, w, x, y, rfl, hw, hw2, hx, hy, ⟨l, h1, h2⟩, ⟨l', h1', h2'⟩, ret⟩
  refine ⟨rfl, ?_⟩
  ((conv in (dBody _) => whnf); (conv in (dScope _) => whnf); (try dsimp only [List.zip_cons_cons, List.zip_nil_left]))
  walk_at "m.x"
  refine WE_callG (k := 13) (con_signed C) (envOk_mk rfl) G (room.less (by decide)) (by decide) rfl ?_ rfl rfl rfl
  walk_at "m.e"
  repeat walk_at "m.e"
  refine WE_callL (k := 30) (con_mul C) (envOk_mk rfl) G (room.less (by decide)) (by decide) rfl ?_ rfl rfl rfl
  repeat walk_at "m.e"
  refine ⟨l, l', w, x.natAbs, y.natAbs, rfl, hw, hw2, hx, hy, h2, h2', ?_⟩
  intro r σ₁ hle₁ hr hr₁
  repeat walk_at "m.e"
  have e : x.natAbs * y.natAbs = (x * y).natAbs := (Int.natAbs_mul x y).symm
  rw [e] at hr₁
  refine ⟨_, r, _, rfl, hr₁, ?_, ?_⟩
  · have a1 := limbs_short hw hx
    have a2 := limbs_short hw hy
    have : (limbs w (x * y).natAbs).length ≤ 128 := by
      refine limbs_len hw ?_
      rw [← e]
      have b1 := limbs_lt_pow hw x.natAbs
      have b2 := limbs_lt_pow hw y.natAbs
      have b3 : x.natAbs * y.natAbs < (2 ^ w) ^ (limbs w x.natAbs).length * (2 ^ w) ^ (limbs w y.natAbs).length := Nat.mul_lt_mul'' b1 b2
      rw [← Nat.pow_add] at b3
      exact Nat.lt_of_lt_of_le b3 (Nat.pow_le_pow_right (Nat.pow_pos (by decide)) (by omega))
    omega
  · intro t σ₂ hle₂ ht
    refine ret t σ₂ (hle₁.trans hle₂) (SG.mk hw ht (hle₂ _ _ hr₁) fun hz => ?_)
    have hx0 : x ≠ 0 := fun h => hz (by rw [h]; simp)
    have hy0 : y ≠ 0 := fun h => hz (by rw [h]; simp)
    by_cases a : x < 0
    · by_cases b : y < 0
      · have : 0 < x * y := Int.mul_pos_of_neg_of_neg a b
        simp [a, b]; omega
      · have : x * y < 0 := Int.mul_neg_of_neg_of_pos a (by omega)
        simp [a, b]; omega
    · by_cases b : y < 0
      · have : x * y < 0 := Int.mul_neg_of_pos_of_neg (by omega) b
        simp [a, b]; omega
      · have : 0 < x * y := Int.mul_pos (by omega) (by omega)
        simp [a, b]; omega

set_option maxHeartbeats 2000000 in
theorem con_addS (C : Cx) : Con C 3 (defAt 16) SAddS := by
  refine Con.mk ["x", "y", "w"] rfl defOk16 (by decide) ?_
  rintro g L q a cd A vs σ Q G room ⟨la, lb, w, x, y, rfl, hw, hw2, hx, hy, ⟨l, h1, h2⟩, ⟨l', h1', h2'⟩, ret⟩
  refine ⟨rfl, ?_⟩
  have a1 := limbs_short hw hx
  have a2 := limbs_short hw hy
  have short : ∀ n : Nat, n < 2 ^ 65 → (limbs w n).length ≤ 900 := fun n hn => Nat.le_trans (limbs_short2 hw (Nat.lt_of_lt_of_le hn (by decide))) (by decide)
  ((conv in (dBody _) => whnf); (conv in (dScope _) => whnf); (try dsimp only [List.zip_cons_cons, List.zip_nil_left]))
  walk_at "m.x"
  repeat walk_at "m.e"
  by_cases hs : decide (x < 0) = decide (y < 0)
  · rw [show (decide (x < 0) == decide (y < 0)) = true by rw [hs]; simp]
    repeat walk_at "m.x"
    refine WE_callG (k := 13) (con_signed C) (envOk_mk rfl) G (room.less (by decide)) (by decide) rfl ?_ rfl rfl rfl
    repeat walk_at "m.e"
    refine WE_callG (k := 6) (con_add C) (envOk_mk rfl) G (room.less (by decide)) (by decide) rfl ?_ rfl rfl rfl
    repeat walk_at "m.e"
    refine ⟨l, l', w, x.natAbs, y.natAbs, rfl, hw, by omega, hx, hy, h2, h2', ?_⟩
    intro r σ₁ hle₁ hr hr₁
    repeat walk_at "m.e"
    have e : x.natAbs + y.natAbs = (x + y).natAbs := by
      by_cases a : x < 0 <;> by_cases b : y < 0 <;> simp [a, b] at hs <;> omega
    rw [e] at hr₁
    refine ⟨_, r, _, rfl, hr₁, short _ (by omega), ?_⟩
    intro t σ₂ hle₂ ht
    refine ret t σ₂ (hle₁.trans hle₂) (SG.mk hw ht (hle₂ _ _ hr₁) fun hz => ?_)
    by_cases a : x < 0 <;> by_cases b : y < 0 <;> simp [a, b] at hs ⊢ <;> omega
  · rw [show (decide (x < 0) == decide (y < 0)) = false by simpa using hs]
    repeat walk_at "m.x"
    walk_at "m.e"
    refine WE_callG (k := 5) (con_compare C) (envOk_mk rfl) G (room.less (by decide)) (by decide) rfl ?_ rfl rfl rfl
    repeat walk_at "m.e"
    refine ⟨l, l', w, x.natAbs, y.natAbs, rfl, hw, hx, hy, h2, h2', ?_⟩
    repeat walk_at "m.e"
    refine if_dec (fun h => ?_) (fun h => ?_)
    · have hlt : x.natAbs < y.natAbs := by
        unfold cmpN at h; split at h
        · assumption
        · split at h <;> omega
      walk_at "m.x"
      refine WE_callG (k := 13) (con_signed C) (envOk_mk rfl) G (room.less (by decide)) (by decide) rfl ?_ rfl rfl rfl
      repeat walk_at "m.e"
      refine WE_callG (k := 7) (con_sub C) (envOk_mk rfl) G (room.less (by decide)) (by decide) rfl ?_ rfl rfl rfl
      repeat walk_at "m.e"
      refine ⟨l', l, w, y.natAbs, x.natAbs, rfl, hw, by omega, hy, by omega, h2', h2, ?_⟩
      intro r σ₁ hle₁ hr hr₁
      repeat walk_at "m.e"
      have e : y.natAbs - x.natAbs = (x + y).natAbs := by
        by_cases a : x < 0 <;> by_cases b : y < 0 <;> simp [a, b] at hs <;> omega
      rw [e] at hr₁
      refine ⟨_, r, _, rfl, hr₁, short _ (by omega), ?_⟩
      intro t σ₂ hle₂ ht
      refine ret t σ₂ (hle₁.trans hle₂) (SG.mk hw ht (hle₂ _ _ hr₁) fun hz => ?_)
      by_cases a : x < 0 <;> by_cases b : y < 0 <;> simp [a, b] at hs ⊢ <;> omega
    · have hlt : y.natAbs ≤ x.natAbs := by
        unfold cmpN at h; split at h
        · omega
        · omega
      repeat walk_at "m.x"
      refine WE_callG (k := 13) (con_signed C) (envOk_mk rfl) G (room.less (by decide)) (by decide) rfl ?_ rfl rfl rfl
      repeat walk_at "m.e"
      refine WE_callG (k := 7) (con_sub C) (envOk_mk rfl) G (room.less (by decide)) (by decide) rfl ?_ rfl rfl rfl
      repeat walk_at "m.e"
      refine ⟨l, l', w, x.natAbs, y.natAbs, rfl, hw, by omega, hx, by omega, h2, h2', ?_⟩
      intro r σ₁ hle₁ hr hr₁
      repeat walk_at "m.e"
      have e : x.natAbs - y.natAbs = (x + y).natAbs := by
        by_cases a : x < 0 <;> by_cases b : y < 0 <;> simp [a, b] at hs <;> omega
      rw [e] at hr₁
      refine ⟨_, r, _, rfl, hr₁, short _ (by omega), ?_⟩
      intro t σ₂ hle₂ ht
      refine ret t σ₂ (hle₁.trans hle₂) (SG.mk hw ht (hle₂ _ _ hr₁) fun hz => ?_)
      by_cases a : x < 0 <;> by_cases b : y < 0 <;> simp [a, b] at hs ⊢ <;> omega

theorem defOk19 : DefOk (defAt 19) := ⟨by decide, by decide, rfl, rfl, rfl, fun vals _ _ _ _ _ h => by
  obtain ⟨a, b, c, d, rfl⟩ := len4 h
  rfl⟩
theorem defOk20 : DefOk (defAt 20) := ⟨by decide, by decide, rfl, rfl, rfl, fun vals _ _ _ _ _ h => by
  obtain ⟨a, b, c, d, rfl⟩ := len4 h
  rfl⟩
theorem defOk22 : DefOk (defAt 22) := ⟨by decide, by decide, rfl, rfl, rfl, fun vals _ _ _ _ _ h => by
  obtain ⟨a, rfl⟩ := len1 h
  rfl⟩
theorem defOk28 : DefOk (defAt 28) := ⟨by decide, by decide, rfl, rfl, rfl, fun vals _ _ _ _ _ h => by
  obtain ⟨a, b, c, d, rfl⟩ := len4 h
  rfl⟩

def SCommon (C : Cx) : Spec := fun vs σ K => ∃ a b w x y, vs = [.ref a, .ref b, .int ((w : Nat) : Int), .ref (fa C 36)] ∧ 1 ≤ w ∧ w ≤ 30 ∧ x < 2 ^ 64 ∧ y < 2 ^ 64 ∧ σ a = some (LI (limbs w x)) ∧ σ b = some (LI (limbs w y)) ∧ RetL σ K (limbs w (Nat.gcd x y))
def SCut (C : Cx) : Spec := fun vs σ K => ∃ a d w, ∃ e : Nat, ∃ z : Int, vs = [.ref a, .ref d, .int ((w : Nat) : Int), .ref (fa C 36)] ∧ 1 ≤ w ∧ w ≤ 30 ∧ 0 < e ∧ e < 2 ^ 64 ∧ (z * (e : Int)).natAbs < 2 ^ 64 ∧ SG σ w a (z * (e : Int)) ∧ σ d = some (LI (limbs w e)) ∧ RetS σ w K z

set_option maxHeartbeats 2000000 in
theorem con_common (C : Cx) : Con C 5 (defAt 19) (SCommon C) := by
  refine Con.mk ["a", "b", "w", "divrem"] rfl defOk19 (by decide) ?_
  rintro g L q a cd A vs σ Q G room ⟨la, lb, w, x, y, rfl, hw, hw2, hx, hy, ha, hb, ret⟩
  refine ⟨rfl, ?_⟩
  ((conv in (dBody _) => whnf); (conv in (dScope _) => whnf); (try dsimp only [List.zip_cons_cons, List.zip_nil_left]))
  refine X_While (fun j : Addr × Addr × Nat × Nat => j.2.2.2) (fun j => [(Str.ofString "a", .ref j.1), (Str.ofString "b", .ref j.2.1), (Str.ofString "w", .int (w : Int)), (Str.ofString "divrem", .ref (fa C 36))])
    (fun j σ' => Le σ σ' ∧ j.2.2.1 < 2 ^ 64 ∧ j.2.2.2 < 2 ^ 64 ∧ σ' j.1 = some (LI (limbs w j.2.2.1)) ∧ σ' j.2.1 = some (LI (limbs w j.2.2.2)) ∧ Nat.gcd j.2.2.1 j.2.2.2 = Nat.gcd x y) (la, lb, x, y) (by (repeat' first | (with_reducible exact Sub.refl _) | (with_reducible exact Sub.nil _) | (with_reducible refine' Sub.cons ?_ ?_) | rfl)) ⟨Le.refl _, hx, hy, ha, hb, rfl⟩ ?_
  clear hx hy ha hb
  rintro ⟨la, lb, u, v⟩ σ' ⟨hle, hu, hv, ha, hb, hg⟩
  dsimp only at hu hv ha hb hg
  have lu := limbs_short hw hu
  have lv := limbs_short hw hv
  repeat walk_at "m.e"
  refine if_dec (fun h => ?_) (fun h => ?_)
  · have hv0 : v ≠ 0 := (len_pos hw).mp (by omega)
    walk_at "m.x"
    repeat walk_at "m.e"
    refine WE_callL (k := 36) (con_divrem C) (envOk_mk rfl) G (room.less (by decide)) (by decide) rfl ?_ rfl rfl rfl
    repeat walk_at "m.e"
    refine ⟨la, lb, w, u, v, rfl, hw, hw2, hu, by omega, hv, ha, hb, ?_⟩
    intro t qa ra σ₁ hle₁ ht hqa hra
    repeat walk_at "m.e"
    intro t' ht'
    repeat walk_at "m.e"
    repeat walk_at "m.x"
    have l2 := hle₁.trans (Le.upd (o := .tup [.ref lb, .ref ra]) (Le.refl σ₁) ht')
    refine ⟨(lb, ra, v, u % v), Nat.mod_lt _ (by omega), by (repeat' first | (with_reducible exact Sub.refl _) | (with_reducible exact Sub.nil _) | (with_reducible refine' Sub.cons ?_ ?_) | rfl), hle.trans l2, hv, Nat.lt_trans (Nat.mod_lt _ (by omega)) hv, l2 _ _ hb, upd_fresh ht' hra, ?_⟩
    dsimp only
    rw [← hg, Nat.gcd_comm v, ← Nat.gcd_rec, Nat.gcd_comm]
  · have hv0 : v = 0 := by
      by_cases h0 : v = 0
      · exact h0
      · have := (len_pos hw).mpr h0; omega
    subst hv0
    walk_at "m.x"
    refine WE_callG (k := 4) (con_normal C) (envOk_mk rfl) G (room.less (by decide)) (by decide) rfl ?_ rfl rfl rfl
    repeat walk_at "m.e"
    refine ⟨la, _, rfl, ha, by omega, ?_⟩
    rw [strip_of hw (limbs_dig hw u) (limbs_val hw u)]
    rw [Nat.gcd_zero_right] at hg
    rw [hg]
    exact ret.up hle

theorem sign_mul {z : Int} {e : Nat} (he : 0 < e) : decide (z * (e : Int) < 0) = decide (z < 0) := by
  by_cases h : z < 0
  · have := Int.mul_neg_of_neg_of_pos h (show (0 : Int) < e by omega)
    simp [h, this]
  · have := Int.mul_nonneg (show 0 ≤ z by omega) (show (0 : Int) ≤ e by omega)
    simp [h]; omega

set_option maxHeartbeats 2000000 in
theorem con_cut (C : Cx) : Con C 5 (defAt 20) (SCut C) := by
  refine Con.mk ["x", "d", "w", "divrem"] rfl defOk20 (by decide) ?_
  rintro g L q a cd A vs σ Q G room ⟨la, ld, w, e, z, rfl, hw, hw2, he, he2, hz, ⟨l, h1, h2⟩, hd, ret⟩
  refine ⟨rfl, ?_⟩
  ((conv in (dBody _) => whnf); (conv in (dScope _) => whnf); (try dsimp only [List.zip_cons_cons, List.zip_nil_left]))
  walk_at "m.x"
  repeat walk_at "m.e"
  refine WE_callL (k := 36) (con_divrem C) (envOk_mk rfl) G (room.less (by decide)) (by decide) rfl ?_ rfl rfl rfl
  repeat walk_at "m.e"
  refine ⟨l, ld, w, (z * (e : Int)).natAbs, e, rfl, hw, hw2, hz, he, he2, h2, hd, ?_⟩
  intro t qa ra σ₁ hle₁ ht hqa hra
  repeat walk_at "m.e"
  intro t' ht'
  have eq : (z * (e : Int)).natAbs / e = z.natAbs := by
    rw [Int.natAbs_mul, Int.natAbs_natCast, Nat.mul_div_cancel _ he]
  refine ret t' _ (hle₁.trans (Le.upd (Le.refl _) ht')) ⟨qa, ?_, ?_⟩
  · rw [upd_same, sign_mul he]
  · rw [upd_fresh ht' hqa, eq]

/-- a fraction -/
def FR (σ : ST) (w : Nat) (a : Addr) (p : Int) (q : Nat) : Prop := ∃ t l, σ a = some (.tup [.ref t, .ref l]) ∧ SG σ w t p ∧ σ l = some (LI (limbs w q))
theorem FR.le {σ σ' : ST} {w : Nat} {a : Addr} {p : Int} {q : Nat} (h : FR σ w a p q) (hle : Le σ σ') : FR σ' w a p q := let ⟨t, l, h1, h2, h3⟩ := h; ⟨t, l, hle _ _ h1, h2.le hle, hle _ _ h3⟩
def RetF (σ : ST) (w : Nat) (K : V → ST → Prop) (P : Int → Nat → Prop) : Prop := ∀ r σ' p q, Le σ σ' → FR σ' w r p q → P p q → K (.ref r) σ'
theorem RetF.up {σ σ' : ST} {w : Nat} {K : V → ST → Prop} {P : Int → Nat → Prop} (h : RetF σ w K P) (hle : Le σ σ') : RetF σ' w K P := fun r σ'' p q h1 h2 => h r σ'' p q (hle.trans h1) h2

def SRNeg : Spec := fun vs σ K => ∃ a w p q, vs = [.ref a] ∧ 1 ≤ w ∧ p.natAbs < 2 ^ 64 ∧ FR σ w a p q ∧ RetF σ w K (fun p' q' => p' = -p ∧ q' = q)
set_option maxHeartbeats 2000000 in
theorem con_rneg (C : Cx) : Con C 3 (defAt 22) SRNeg := by
  refine Con.mk ["x"] rfl defOk22 (by decide) ?_
  rintro g L q a cd A vs σ Q G room ⟨la, w, p, q, rfl, hw, hp, ⟨t, l, h1, h2, h3⟩, ret⟩
  refine ⟨rfl, ?_⟩
  ((conv in (dBody _) => whnf); (conv in (dScope _) => whnf); (try dsimp only [List.zip_cons_cons, List.zip_nil_left]))
  walk_at "m.x"
  walk_at "m.e"
  walk_at "m.e"
  refine WE_callG (k := 14) (con_neg C) (envOk_mk rfl) G (room.less (by decide)) (by decide) rfl ?_ rfl rfl rfl
  repeat walk_at "m.e"
  refine ⟨t, w, p, rfl, hw, hp, h2, ?_⟩
  intro t' σ₁ hle₁ ht'
  have h1' := hle₁ _ _ h1
  repeat walk_at "m.e"
  intro r hr
  have l2 := Le.upd (o := .tup [.ref t', .ref l]) (Le.refl σ₁) hr
  exact ret r _ (-p) q (hle₁.trans l2) ⟨t', l, upd_same _ _ _, ht'.le l2, l2 _ _ (hle₁ _ _ h3)⟩ ⟨rfl, rfl⟩

def SRCmp (C : Cx) : Spec := fun vs σ K => ∃ a b w, ∃ p1 : Int, ∃ q1 : Nat, ∃ p2 : Int, ∃ q2 : Nat, vs = [.ref a, .ref b, .int ((w : Nat) : Int), .ref (fa C 30)] ∧ 1 ≤ w ∧ w ≤ 30 ∧ p1.natAbs < 2 ^ 31 ∧ p2.natAbs < 2 ^ 31 ∧ q1 < 2 ^ 31 ∧ q2 < 2 ^ 31 ∧ FR σ w a p1 q1 ∧ FR σ w b p2 q2 ∧
  ∀ σ', Le σ σ' → K (.int (cmpZ (p1 * (q2 : Int)) (p2 * (q1 : Int)))) σ'

theorem mul31 {p : Int} {q : Nat} (hp : p.natAbs < 2 ^ 31) (hq : q < 2 ^ 31) : (p * (q : Int)).natAbs < 2 ^ 62 := by
  rw [Int.natAbs_mul, Int.natAbs_natCast]
  have := Nat.mul_lt_mul'' hp hq
  omega

set_option maxHeartbeats 2000000 in
theorem con_rcmp (C : Cx) : Con C 4 (defAt 28) (SRCmp C) := by
  refine Con.mk ["x", "y", "w", "mul"] rfl defOk28 (by decide) ?_
  rintro g L q a cd A vs σ Q G room ⟨la, lb, w, p1, q1, p2, q2, rfl, hw, hw2, hp1, hp2, hq1, hq2, ⟨t1, l1, a1, b1, c1⟩, ⟨t2, l2, a2, b2, c2⟩, ret⟩
  refine ⟨rfl, ?_⟩
  ((conv in (dBody _) => whnf); (conv in (dScope _) => whnf); (try dsimp only [List.zip_cons_cons, List.zip_nil_left]))
  walk_at "m.x"
  refine WE_callG (k := 15) (con_cmpS C) (envOk_mk rfl) G (room.less (by decide)) (by decide) rfl ?_ rfl rfl rfl
  walk_at "m.e"
  refine WE_callG (k := 17) (con_mulS C) (envOk_mk rfl) G (room.less (by decide)) (by decide) rfl ?_ rfl rfl rfl
  repeat walk_at "m.e"
  refine WE_callG (k := 21) (con_signed_of C) (envOk_mk rfl) G (room.less (by decide)) (by decide) rfl ?_ rfl rfl rfl
  repeat walk_at "m.e"
  refine ⟨l2, rfl, ?_⟩
  intro s1 σ₁ hle₁ hs1
  repeat walk_at "m.e"
  have hsg1 : SG σ₁ w s1 ((q2 : Nat) : Int) := ⟨l2, by rw [hs1]; simp <;> omega, by rw [Int.natAbs_natCast]; exact hle₁ _ _ c2⟩
  refine ⟨t1, s1, w, p1, (q2 : Int), rfl, hw, hw2, by omega, by omega, b1.le hle₁, hsg1, ?_⟩
  intro m1 σ₂ hle₂ hm1
  have L2 := hle₁.trans hle₂
  have a2' := L2 _ _ a2
  have a1' := L2 _ _ a1
  walk_at "m.e"
  refine WE_callG (k := 17) (con_mulS C) (envOk_mk rfl) G (room.less (by decide)) (by decide) rfl ?_ rfl rfl rfl
  repeat walk_at "m.e"
  refine WE_callG (k := 21) (con_signed_of C) (envOk_mk rfl) G (room.less (by decide)) (by decide) rfl ?_ rfl rfl rfl
  repeat walk_at "m.e"
  refine ⟨l1, rfl, ?_⟩
  intro s2 σ₃ hle₃ hs2
  repeat walk_at "m.e"
  have hsg2 : SG σ₃ w s2 ((q1 : Nat) : Int) := ⟨l1, by rw [hs2]; simp <;> omega, by rw [Int.natAbs_natCast]; exact hle₃ _ _ (L2 _ _ c1)⟩
  refine ⟨t2, s2, w, p2, (q1 : Int), rfl, hw, hw2, by omega, by omega, b2.le (L2.trans hle₃), hsg2, ?_⟩
  intro m2 σ₄ hle₄ hm2
  repeat walk_at "m.e"
  have := mul31 hp1 hq2
  have := mul31 hp2 hq1
  exact ⟨m1, m2, w, _, _, rfl, hw, by omega, by omega, hm1.le (hle₃.trans hle₄), hm2, ret _ (L2.trans (hle₃.trans hle₄))⟩


section
variable {C : Cx} {A : Around} {g : Heap} {L : Addr} {E : Value → Shared → Prop} {m : LM} {σ : ST} {env : Env}

/-! fractions compared -/
def intsD (ns : List Int) : PyData := .list (ns.map PyData.int)
noncomputable def fracD (w : Nat) (p : Int) (q : Nat) : PyData := .tuple [.tuple [.bool (decide (p < 0)), intsD (limbs w p.natAbs)], intsD (limbs w q)]
theorem fracD_shaped (w : Nat) (p : Int) (q : Nat) : SeqAt.shaped (fracD w p q) = true := by
  simp [fracD, intsD, SeqAt.shaped, PyData.canLay0, PyData.canLayAll0, PyData.depth, PyData.depthAll, ke_canLayAll0, ke_depthAll]
theorem limbs_eq {w : Nat} (hw : 1 ≤ w) {a b : Nat} : limbs w a = limbs w b ↔ a = b := ⟨fun h => limbs_inj hw h, fun h => by rw [h]⟩
theorem fracD_eqv {w : Nat} (hw : 1 ≤ w) (p p' : Int) (q q' : Nat) : PyData.eqv (fracD w p q) (fracD w p' q') = decide (p = p' ∧ q = q') := by
  simp only [fracD, intsD, PyData.eqv, PyData.eqvAll, ked_eqvAll, Bool.and_true, limbs_eq hw]
  by_cases h1 : p = p' <;> by_cases h2 : q = q'
  · subst h1 h2; simp
  · simp [h2]
  · have : ¬ (decide (p < 0) = decide (p' < 0) ∧ p.natAbs = p'.natAbs) := fun ⟨a, b⟩ => h1 (by
      have := decide_eq_decide.mp a
      omega)
    subst h2
    simp only [h1, false_and, decide_false, decide_true, Bool.and_true]
    by_cases e : p.natAbs = p'.natAbs
    · have n : decide (p < 0) ≠ decide (p' < 0) := fun a => this ⟨a, e⟩
      simp [n]
    · simp [e]
  · simp [h2]

theorem ints_reads {h : Heap} {a : Addr} {ns : List Int} (H : HoldsO h a (LI ns)) : ∃ as, Reads h (.ref a) (intsD ns) as := by
  obtain ⟨cvs, n, e, hx⟩ := H
  have all : ∀ (l : List Value) (ns : List Int), l.map er = ns.map V.int → ∃ as, ReadsAll h l (ns.map PyData.int) as := by
    intro l
    induction l with
    | nil => intro ns q; cases ns with
      | nil => exact ⟨_, .nil⟩
      | cons _ _ => cases q
    | cons v l ih => intro ns q; cases ns with
      | nil => cases q
      | cons i ns =>
        simp only [List.map_cons, List.cons.injEq] at q
        obtain ⟨t, rfl⟩ := er_int q.1
        obtain ⟨as, r⟩ := ih ns q.2
        exact ⟨_, .cons (.int i t) r⟩
  obtain ⟨as, r⟩ := all _ _ hx
  exact ⟨_, reads_list_at e rfl rfl r⟩
theorem frac_reads {h : Heap} {a : Addr} {w : Nat} {p : Int} {q : Nat} (R : Rel g L m σ h) (H : FR σ w a p q) : ∃ as, Reads h (.ref a) (fracD w p q) as := by
  obtain ⟨t, l, h1, ⟨n, h2, h3⟩, h4⟩ := H
  obtain ⟨c1, k1, e1, x1⟩ := (R.own _ _ h1).1
  obtain ⟨c2, k2, e2, x2⟩ := (R.own _ _ h2).1
  obtain ⟨as3, r3⟩ := ints_reads (R.own _ _ h3).1
  obtain ⟨as4, r4⟩ := ints_reads (R.own _ _ h4).1
  obtain ⟨u1, u2, y1, y2, y3⟩ := two_er x1
  obtain ⟨u3, u4, y4, y5, y6⟩ := two_er x2
  rw [er_ref y2, er_ref y3] at y1
  rw [er_bool y5, er_ref y6] at y4
  have k1 : Reads h (.ref t) (.tuple [.bool (decide (p < 0)), intsD (limbs w p.natAbs)]) ([] ++ (as3 ++ [])) := reads_tuple_at e2 rfl rfl (by rw [y4]; exact .cons (.bool _) (.cons r3 .nil))
  exact ⟨([] ++ (as3 ++ [])) ++ (as4 ++ []), reads_tuple_at e1 rfl rfl (by rw [y1]; exact .cons k1 (.cons r4 .nil))⟩

/-- a fraction, or nothing -/
inductive VF (σ : ST) (w : Nat) : V → Option (Int × Nat) → Prop
  | none : VF σ w .none none
  | some {a : Addr} {p : Int} {q : Nat} (h : FR σ w a p q) : VF σ w (.ref a) (some (p, q))
theorem VF.le {σ σ' : ST} {w : Nat} {v : V} {f : Option (Int × Nat)} (h : VF σ w v f) (hle : Le σ σ') : VF σ' w v f := by
  cases h with
  | none => exact .none
  | some h => exact .some (h.le hle)
noncomputable def fD (w : Nat) : Option (Int × Nat) → PyData
  | none => .none
  | some (p, q) => fracD w p q
theorem fD_shaped (w : Nat) (f : Option (Int × Nat)) : SeqAt.shaped (fD w f) = true := by
  cases f with
  | none => rfl
  | some x => exact fracD_shaped w x.1 x.2
theorem fD_eqv {w : Nat} (hw : 1 ≤ w) (f f' : Option (Int × Nat)) : PyData.eqv (fD w f) (fD w f') = decide (f = f') := by
  cases f with
  | none => cases f' with
    | none => rfl
    | some x => simp [fD, fracD, PyData.eqv]
  | some x => cases f' with
    | none => simp [fD, fracD, PyData.eqv]
    | some y =>
      show PyData.eqv (fracD w x.1 x.2) (fracD w y.1 y.2) = _
      rw [fracD_eqv hw]
      obtain ⟨a, b⟩ := x
      obtain ⟨c, d⟩ := y
      simp
theorem VF.reads {h : Heap} {w : Nat} {v : Value} {f : Option (Int × Nat)} (R : Rel g L m σ h) (H : VF σ w (er v) f) : ∃ as, Reads h v (fD w f) as := by
  generalize e : er v = u at H
  cases H with
  | none => rw [er_none e]; exact ⟨_, .none⟩
  | some H => rw [er_ref e]; exact frac_reads R H

def NeF (σ : ST) (a b : V) (K : Bool → Prop) : Prop := ∃ w f f', 1 ≤ w ∧ VF σ w a f ∧ VF σ w b f' ∧ K (decide (f ≠ f'))
theorem T_neF {l r : Expr} {pos : Pos} {Q : Bool → LM → ST → Prop} (hu : A.units + 64 < cLine) (hm : behindInMarks .NotEq r = false)
    (h : WE C A g L E m σ (eval l env) (fun a m₁ σ₁ => WE C A g L E m₁ σ₁ (eval r env) (fun b m₂ σ₂ => NeF σ₂ a b (fun z => Q z m₂ σ₂)))) :
    WT C A g L E m σ (.Compare l [.NotEq] [r] pos) env Q :=
  W_isTrue_Compare1 (W_mono h fun a m₁ σ₁ h₁ => W_mono h₁ fun b m₂ σ₂ ⟨w, f, f', hw, va, vb, q⟩ => fun hh tk R => by
    obtain ⟨as, ra⟩ := va.reads R
    obtain ⟨bs, rb⟩ := vb.reads R
    refine ne_dataH (s := shared C hh tk) ra rb (fD_shaped w f) (fD_shaped w f') hu ?_
    rw [fD_eqv hw]
    refine ⟨hh, tk, m₂, σ₂, rfl, R, W_truthy_bool ?_⟩
    rwa [show decide (f ≠ f') = !decide (f = f') from by simp] at q) hm

/-- int of a bool -/
theorem E_intB {p pos : Pos} {e : Expr} {Q : V → LM → ST → Prop} (O : EnvOk env L) (G : Glob C g) (he : backTo pos (starEach [e] env) = (false, eval e env) :: backTo pos (starEach [] env)) (hk : env.kindOf "int" = some .globalImplicit)
    (h : WS C A g L E m σ pos [e] env (fun us m₁ σ₁ => ∃ b, us = [.bool b] ∧ Q (.int (if b then 1 else 0)) m₁ σ₁)) :
    WE C A g L E m σ (eval (.Call (.Name "int" p) [e] [] pos) env) Q :=
  WE_callT (T := "int") (fun Q' q => W_builtin O G (by decide) (by decide +kernel) q hk (by decide) (by decide)) (W_mono h fun vs m₁ σ₁ ⟨b, ev, q⟩ => fun hh tk R => by
    obtain ⟨v, rfl, e0⟩ := one_er ev
    rw [er_bool e0]
    exact call_int_bool ⟨hh, _, m₁, σ₁, rfl, R, q⟩) he rfl

/-- a def of the top, as a value -/
theorem E_fn {k : Nat} {fn : Str} {p : Pos} {Q : V → LM → ST → Prop} (O : EnvOk env L) (G : Glob C g)
    (hk : k ∈ known) (hn : dName (defAt k) = fn)
    (hg : env.kindOf fn = some .globalImplicit) (hd : (fn == ("__debug__" : Str)) = false) (h : Q (.ref (fa C k)) m σ) :
    WE C A g L E m σ (eval (.Name fn p) env) Q := W_global (v := .ref (fa C k)) O G (by rw [← hn]; exact (G.fn hk).1) h hg hd

/-- a call of a def that an item of a list names -/
theorem WE_callI {v i : Expr} {p pos : Pos} {e : Expr} {args : List Expr} {Q : V → LM → ST → Prop} (G : Glob C g)
    (h : WE C A g L E m σ (eval (.Subscript v i p) env) (fun f m₁ σ₁ => ∃ k n S, f = .ref (fa C k) ∧ Con C n (defAt k) S ∧ Room A n ∧ k ∈ known ∧
      WS C A g L E m₁ σ₁ pos (e :: args) env (fun vs m₂ σ₂ => S vs σ₂ (fun v σ₃ => Q v m₂ σ₃))))
    (he : backTo pos (starEach (e :: args) env) = (false, eval e env) :: backTo pos (starEach args env)) :
    WE C A g L E m σ (eval (.Call (.Subscript v i p) (e :: args) [] pos) env) Q := fun hh tk R => by
  show wpAny _ _ (do callWith pos (← eval (.Subscript v i p) env) [] (backTo pos (starEach (e :: args) env)) (backToKw pos (keywordEach [] env))) _ _ _
  refine wpAny_bind (go (h hh tk R) (fun f h₁ tk₁ m₁ σ₁ R₁ ⟨k, n, S, ef, con, room, hk, hs⟩ => ?_) fun _ _ x => x)
  cases er_ref ef
  have hf := (G.fn hk).2
  obtain ⟨o, doc, pm, an, cd, ct, ho, hdata, hcd⟩ := id hf
  refine Calls.callWith_function (o := o) (fd := fdOf (defAt k) doc pm an cd ct) ?_
  have h' : W C A g L E m₁ σ₁ (spliced ((false, eval e env) :: backTo pos (starEach args env))) (fun vs m₁ σ₁ => S (vs.map er) σ₁ (fun v σ₂ => Q v m₁ σ₂)) := by
    rw [← he]; exact hs
  rw [he]
  refine Calls.evalArgs_plain (go (h' h₁ tk₁ R₁) (fun vs h₂ tk₂ m₂ σ₂ R₂ q => ?_) fun _ _ x => x)
  obtain ⟨mc, F, _⟩ := R₂.fr
  refine ⟨⟨F.keep _ _ ho, hdata⟩, ?_⟩
  exact wpAny_mono (con A g L E m₂ σ₂ (fa C k) vs _ G room hf q h₂ tk₂ R₂) (fun v s₃ p => p.mono fun v m' σ' ⟨em, q⟩ => by subst em; exact q) fun _ _ x => x
end

theorem defOk23 : DefOk (defAt 23) := ⟨by decide, by decide, rfl, rfl, rfl, fun vals _ _ _ _ _ h => by
  obtain ⟨a, b, c, d, e, rfl⟩ := len5 h
  rfl⟩
theorem defOk24 : DefOk (defAt 24) := ⟨by decide, by decide, rfl, rfl, rfl, fun vals _ _ _ _ _ h => by
  obtain ⟨a, b, c, d, e, rfl⟩ := len5 h
  rfl⟩
theorem defOk25 : DefOk (defAt 25) := ⟨by decide, by decide, rfl, rfl, rfl, fun vals _ _ _ _ _ h => by
  obtain ⟨a, b, c, d, e, rfl⟩ := len5 h
  rfl⟩

/-- in least terms, and not too great -/
structure Good (p : Int) (q : Nat) : Prop where
  pos : 0 < q
  cop : Nat.gcd p.natAbs q = 1
  top : p.natAbs < 2 ^ 30
  bot : q < 2 ^ 30
/-- what a sum gives -/
def IsSum (p1 : Int) (q1 : Nat) (p2 : Int) (q2 : Nat) (p : Int) (q : Nat) : Prop := 0 < q ∧ p * ((q1 : Int) * q2) = (p1 * q2 + p2 * q1) * (q : Int) ∧ Nat.gcd p.natAbs q = 1
def IsProd (p1 : Int) (q1 : Nat) (p2 : Int) (q2 : Nat) (p : Int) (q : Nat) : Prop := 0 < q ∧ p * ((q1 : Int) * q2) = (p1 * p2) * (q : Int) ∧ Nat.gcd p.natAbs q = 1
def SROp (C : Cx) (P : Int → Nat → Int → Nat → Int → Nat → Prop) : Spec := fun vs σ K => ∃ a b w, ∃ p1 : Int, ∃ q1 : Nat, ∃ p2 : Int, ∃ q2 : Nat, vs = [.ref a, .ref b, .int ((w : Nat) : Int), .ref (fa C 30), .ref (fa C 36)] ∧ 1 ≤ w ∧ w ≤ 30 ∧ Good p1 q1 ∧ Good p2 q2 ∧
  FR σ w a p1 q1 ∧ FR σ w b p2 q2 ∧ RetF σ w K (P p1 q1 p2 q2)

theorem mul_lt60 {a b : Nat} (ha : a < 2 ^ 30) (hb : b < 2 ^ 30) : a * b < 2 ^ 60 := by
  have := Nat.mul_lt_mul'' ha hb
  omega

set_option maxHeartbeats 4000000 in
theorem con_radd (C : Cx) : Con C 6 (defAt 23) (SROp C IsSum) := by
  refine Con.mk ["x", "y", "w", "mul", "divrem"] rfl defOk23 (by decide) ?_
  rintro g L q a cd A vs σ Q G room ⟨la, lb, w, p1, q1, p2, q2, rfl, hw, hw2, g1, g2, ⟨t1, l1, a1, b1, c1⟩, ⟨t2, l2, a2, b2, c2⟩, ret⟩
  refine ⟨rfl, ?_⟩
  have g1t := g1.top
  have g1b := g1.bot
  have g2t := g2.top
  have g2b := g2.bot
  have g1p := g1.pos
  have g2p := g2.pos
  ((conv in (dBody _) => whnf); (conv in (dScope _) => whnf); (try dsimp only [List.zip_cons_cons, List.zip_nil_left]))
  walk_at "m.x"
  -- told
  refine WE_callG (k := 19) (con_common C) (envOk_mk rfl) G (room.less (by decide)) (by decide) rfl ?_ rfl rfl rfl
  repeat walk_at "m.e"
  refine ⟨l1, l2, w, q1, q2, rfl, hw, hw2, by omega, by omega, c1, c2, ?_⟩
  intro lg σ₁ hle₁ hlg hlg1
  have a1 := hle₁ _ _ a1
  have a2 := hle₁ _ _ a2
  have b1 := b1.le hle₁
  have b2 := b2.le hle₁
  have c1 := hle₁ _ _ c1
  have c2 := hle₁ _ _ c2
  obtain ⟨gg, hgg⟩ : ∃ gg, gg = Nat.gcd q1 q2 := ⟨_, rfl⟩
  rw [← hgg] at hlg1
  have hg0 : 0 < gg := by rw [hgg]; exact Nat.gcd_pos_of_pos_left _ g1p
  obtain ⟨h, hh⟩ : gg ∣ q1 := by rw [hgg]; exact Nat.gcd_dvd_left _ _
  obtain ⟨k, hk⟩ : gg ∣ q2 := by rw [hgg]; exact Nat.gcd_dvd_right _ _
  have hgq : gg ≤ q1 := Nat.le_of_dvd g1p ⟨h, hh⟩
  have hh0 : 0 < h := Nat.pos_of_ne_zero fun e => by rw [e] at hh; omega
  have hk0 : 0 < k := Nat.pos_of_ne_zero fun e => by rw [e] at hk; omega
  have hhq : h ≤ q1 := by rw [hh]; exact Nat.le_mul_of_pos_left h hg0
  have hkq : k ≤ q2 := by rw [hk]; exact Nat.le_mul_of_pos_left k hg0
  have dh : q1 / gg = h := by rw [hh, Nat.mul_div_cancel_left _ hg0]
  have dk : q2 / gg = k := by rw [hk, Nat.mul_div_cancel_left _ hg0]
  -- here, there
  walk_at "m.x"
  repeat walk_at "m.e"
  refine WE_callL (k := 36) (con_divrem C) (envOk_mk rfl) G (room.less (by decide)) (by decide) rfl ?_ rfl rfl rfl
  repeat walk_at "m.e"
  refine ⟨l1, lg, w, q1, gg, rfl, hw, hw2, by omega, hg0, by omega, c1, hlg1, ?_⟩
  intro t3 lh r3 σ₂ hle₂ ht3 hlh hr3
  have a1 := hle₂ _ _ a1
  have a2 := hle₂ _ _ a2
  have b1 := b1.le hle₂
  have b2 := b2.le hle₂
  have c1 := hle₂ _ _ c1
  have c2 := hle₂ _ _ c2
  have hlg1 := hle₂ _ _ hlg1
  repeat walk_at "m.e"
  refine WE_callL (k := 36) (con_divrem C) (envOk_mk rfl) G (room.less (by decide)) (by decide) rfl ?_ rfl rfl rfl
  repeat walk_at "m.e"
  refine ⟨l2, lg, w, q2, gg, rfl, hw, hw2, by omega, hg0, by omega, c2, hlg1, ?_⟩
  intro t4 lk r4 σ₃ hle₃ ht4 hlk hr4
  rw [dh] at hlh
  rw [dk] at hlk
  have a1 := hle₃ _ _ a1
  have a2 := hle₃ _ _ a2
  have b1 := b1.le hle₃
  have b2 := b2.le hle₃
  have c1 := hle₃ _ _ c1
  have c2 := hle₃ _ _ c2
  have hlg1 := hle₃ _ _ hlg1
  have hlh := hle₃ _ _ hlh
  repeat walk_at "m.e"
  intro t5 ht5
  repeat walk_at "m.e"
  have l5 := Le.upd (o := .tup [.ref lh, .ref lk]) (Le.refl σ₃) ht5
  have hL : Le σ (upd σ₃ t5 (.tup [.ref lh, .ref lk])) := hle₁.trans (hle₂.trans (hle₃.trans l5))
  have a1 := l5 _ _ a1
  have a2 := l5 _ _ a2
  have b1 := b1.le l5
  have b2 := b2.le l5
  have c1 := l5 _ _ c1
  have c2 := l5 _ _ c2
  have hlg1 := l5 _ _ hlg1
  have hlh := l5 _ _ hlh
  have hlk := l5 _ _ hlk
  generalize upd σ₃ t5 (.tup [.ref lh, .ref lk]) = σ₅ at *
  -- top
  walk_at "m.x"
  refine WE_callG (k := 16) (con_addS C) (envOk_mk rfl) G (room.less (by decide)) (by decide) rfl ?_ rfl rfl rfl
  walk_at "m.e"
  refine WE_callG (k := 17) (con_mulS C) (envOk_mk rfl) G (room.less (by decide)) (by decide) rfl ?_ rfl rfl rfl
  repeat walk_at "m.e"
  refine WE_callG (k := 21) (con_signed_of C) (envOk_mk rfl) G (room.less (by decide)) (by decide) rfl ?_ rfl rfl rfl
  repeat walk_at "m.e"
  refine ⟨lk, rfl, ?_⟩
  intro s1 σ₆ hle₆ hs1
  repeat walk_at "m.e"
  have hsg1 : SG σ₆ w s1 ((k : Nat) : Int) := ⟨lk, by rw [hs1]; simp <;> omega, by rw [Int.natAbs_natCast]; exact hle₆ _ _ hlk⟩
  have bk : (p1 * (k : Int)).natAbs < 2 ^ 60 := by rw [Int.natAbs_mul, Int.natAbs_natCast]; exact mul_lt60 g1t (by omega)
  have bh : (p2 * (h : Int)).natAbs < 2 ^ 60 := by rw [Int.natAbs_mul, Int.natAbs_natCast]; exact mul_lt60 g2t (by omega)
  refine ⟨t1, s1, w, p1, (k : Int), rfl, hw, hw2, by omega, by omega, b1.le hle₆, hsg1, ?_⟩
  intro m1 σ₇ hle₇ hm1
  have L7 := hle₆.trans hle₇
  have a1 := L7 _ _ a1
  have a2 := L7 _ _ a2
  have b2 := b2.le L7
  have c2 := L7 _ _ c2
  have hlg1 := L7 _ _ hlg1
  have hlh := L7 _ _ hlh
  repeat walk_at "m.e"
  refine WE_callG (k := 17) (con_mulS C) (envOk_mk rfl) G (room.less (by decide)) (by decide) rfl ?_ rfl rfl rfl
  repeat walk_at "m.e"
  refine WE_callG (k := 21) (con_signed_of C) (envOk_mk rfl) G (room.less (by decide)) (by decide) rfl ?_ rfl rfl rfl
  repeat walk_at "m.e"
  refine ⟨lh, rfl, ?_⟩
  intro s2 σ₈ hle₈ hs2
  repeat walk_at "m.e"
  have hsg2 : SG σ₈ w s2 ((h : Nat) : Int) := ⟨lh, by rw [hs2]; simp <;> omega, by rw [Int.natAbs_natCast]; exact hle₈ _ _ hlh⟩
  refine ⟨t2, s2, w, p2, (h : Int), rfl, hw, hw2, by omega, by omega, b2.le hle₈, hsg2, ?_⟩
  intro m2 σ₉ hle₉ hm2
  repeat walk_at "m.e"
  refine ⟨m1, m2, w, p1 * (k : Int), p2 * (h : Int), rfl, hw, hw2, by omega, by omega, hm1.le (hle₈.trans hle₉), hm2, ?_⟩
  intro lt σ₁₀ hle₁₀ ⟨ltop, htop1, htop2⟩
  obtain ⟨t, ht⟩ : ∃ t, t = p1 * (k : Int) + p2 * (h : Int) := ⟨_, rfl⟩
  rw [← ht] at htop1 htop2
  have bt : t.natAbs < 2 ^ 61 := by omega
  have L10 := hle₈.trans (hle₉.trans hle₁₀)
  have hL10 : Le σ σ₁₀ := hL.trans (L7.trans L10)
  have a1 := L10 _ _ a1
  have a2 := L10 _ _ a2
  have c2 := L10 _ _ c2
  have hlg1 := L10 _ _ hlg1
  have hlh := L10 _ _ hlh
  have stt := limbs_short hw (show t.natAbs < 2 ^ 64 by omega)
  walk_at "m.x"
  repeat walk_at "m.e"
  refine if_dec (fun hz => ?_) (fun hz => ?_)
  · have ht0 : t = 0 := by
      by_cases h0 : t = 0
      · exact h0
      · have := (len_pos hw (n := t.natAbs)).mpr (by omega); omega
    walk_at "m.x"
    repeat walk_at "m.e"
    intro lo hlo
    repeat walk_at "m.e"
    intro r hr
    have e1 := Le.upd (o := LI [1]) (Le.refl σ₁₀) hlo
    have e2 := Le.upd (o := .tup [.ref lt, .ref lo]) e1 (le_none e1 hr)
    refine ret r _ t 1 (hL10.trans e2) ⟨lt, lo, upd_same _ _ _, ⟨ltop, e2 _ _ htop1, e2 _ _ htop2⟩, ?_⟩ ?_
    · rw [limbs_one hw (by decide) (by
        have := Nat.pow_le_pow_right (show 0 < 2 by decide) hw
        omega)]
      exact upd_fresh hr (upd_same _ _ _)
    · refine ⟨by decide, ?_, by rw [ht0]; rfl⟩
      have hgI : (p1 * (q2 : Int) + p2 * q1) = gg * t := by
        have e1 : (q1 : Int) = gg * h := by rw [hh]; push_cast; rfl
        have e2 : (q2 : Int) = gg * k := by rw [hk]; push_cast; rfl
        rw [e1, e2, ht]; grind
      rw [hgI, ht0]; simp
  -- out
  repeat walk_at "m.x"
  refine WE_callG (k := 19) (con_common C) (envOk_mk rfl) G (room.less (by decide)) (by decide) rfl ?_ rfl rfl rfl
  repeat walk_at "m.e"
  refine ⟨ltop, lg, w, t.natAbs, gg, rfl, hw, hw2, by omega, by omega, htop2, hlg1, ?_⟩
  intro lout σ₁₁ hle₁₁ hlo0 hlout
  obtain ⟨o, ho⟩ : ∃ o, o = Nat.gcd t.natAbs gg := ⟨_, rfl⟩
  rw [← ho] at hlout
  have ho0 : 0 < o := by rw [ho]; exact Nat.gcd_pos_of_pos_right _ hg0
  obtain ⟨g', hg'⟩ : o ∣ gg := by rw [ho]; exact Nat.gcd_dvd_right _ _
  obtain ⟨ta, hta⟩ : o ∣ t.natAbs := by rw [ho]; exact Nat.gcd_dvd_left _ _
  have hog : o ≤ gg := Nat.le_of_dvd hg0 ⟨g', hg'⟩
  obtain ⟨p, hp⟩ : ∃ p : Int, t = p * o := by
    have : (o : Int) ∣ t := Int.ofNat_dvd_left.mpr ⟨ta, hta⟩
    obtain ⟨c, hc⟩ := this
    exact ⟨c, by rw [hc, Int.mul_comm]⟩
  obtain ⟨r, hr⟩ : ∃ r, q2 = r * o := ⟨k * g', by rw [hk, hg']; rw [Nat.mul_comm k g', Nat.mul_assoc g' k o, Nat.mul_comm k o, ← Nat.mul_assoc, Nat.mul_comm g' o]⟩
  have hr0 : 0 < r := Nat.pos_of_ne_zero fun e => by rw [e] at hr; omega
  have hrq : r ≤ q2 := by rw [hr]; exact Nat.le_mul_of_pos_right r ho0
  have dr : q2 / o = r := by rw [hr, Nat.mul_div_cancel _ ho0]
  have a2 := hle₁₁ _ _ a2
  have c2 := hle₁₁ _ _ c2
  have hlh := hle₁₁ _ _ hlh
  walk_at "m.x"
  walk_at "m.e"
  walk_at "m.e"
  refine WE_callG (k := 20) (con_cut C) (envOk_mk rfl) G (room.less (by decide)) (by decide) rfl ?_ rfl rfl rfl
  repeat walk_at "m.e"
  refine ⟨lt, lout, w, o, p, rfl, hw, hw2, ho0, by omega, by rw [← hp]; omega, ⟨ltop, by rw [← hp]; exact hle₁₁ _ _ htop1, by rw [← hp]; exact hle₁₁ _ _ htop2⟩, hlout, ?_⟩
  intro lp σ₁₂ hle₁₂ hlp
  have a2 := hle₁₂ _ _ a2
  have c2 := hle₁₂ _ _ c2
  have hlh := hle₁₂ _ _ hlh
  have hlout := hle₁₂ _ _ hlout
  walk_at "m.e"
  refine WE_callL (k := 30) (con_mul C) (envOk_mk rfl) G (room.less (by decide)) (by decide) rfl ?_ rfl rfl rfl
  repeat walk_at "m.e"
  refine WE_callL (k := 36) (con_divrem C) (envOk_mk rfl) G (room.less (by decide)) (by decide) rfl ?_ rfl rfl rfl
  repeat walk_at "m.e"
  refine ⟨l2, lout, w, q2, o, rfl, hw, hw2, by omega, ho0, by omega, c2, hlout, ?_⟩
  intro t6 lr r6 σ₁₃ hle₁₃ ht6 hlr hr6
  rw [dr] at hlr
  have hlh := hle₁₃ _ _ hlh
  repeat walk_at "m.e"
  refine ⟨lh, lr, w, h, r, rfl, hw, hw2, by omega, by omega, hlh, hlr, ?_⟩
  intro lb2 σ₁₄ hle₁₄ _ hlb2
  repeat walk_at "m.e"
  intro res hres
  have eL := Le.upd (o := .tup [.ref lp, .ref lb2]) (Le.refl σ₁₄) hres
  obtain ⟨f1, f2⟩ := add_least g1.cop g2.cop g1p g2p hgg (by rw [hh, Nat.mul_comm]) (by rw [hk, Nat.mul_comm]) ht ho hp hr
  refine ret res _ p (h * r) (hL10.trans (hle₁₁.trans (hle₁₂.trans (hle₁₃.trans (hle₁₄.trans eL))))) ⟨lp, lb2, upd_same _ _ _, hlp.le (hle₁₃.trans (hle₁₄.trans eL)), eL _ _ hlb2⟩ ⟨Nat.mul_pos hh0 hr0, f1, f2⟩

theorem defOk26 : DefOk (defAt 26) := ⟨by decide, by decide, rfl, rfl, rfl, fun vals _ _ _ _ _ h => by
  obtain ⟨a, rfl⟩ := len1 h
  rfl⟩
theorem defOk27 : DefOk (defAt 27) := ⟨by decide, by decide, rfl, rfl, rfl, fun vals _ _ _ _ _ h => by
  obtain ⟨a, b, c, d, e, rfl⟩ := len5 h
  rfl⟩

set_option maxHeartbeats 2000000 in
theorem con_rsub (C : Cx) : Con C 7 (defAt 24) (SROp C (fun p1 q1 p2 q2 => IsSum p1 q1 (-p2) q2)) := by
  refine Con.mk ["x", "y", "w", "mul", "divrem"] rfl defOk24 (by decide) ?_
  rintro g L q a cd A vs σ Q G room ⟨la, lb, w, p1, q1, p2, q2, rfl, hw, hw2, g1, g2, f1, f2, ret⟩
  refine ⟨rfl, ?_⟩
  have g2t := g2.top
  ((conv in (dBody _) => whnf); (conv in (dScope _) => whnf); (try dsimp only [List.zip_cons_cons, List.zip_nil_left]))
  walk_at "m.x"
  refine WE_callG (k := 23) (con_radd C) (envOk_mk rfl) G (room.less (by decide)) (by decide) rfl ?_ rfl rfl rfl
  repeat walk_at "m.e"
  refine WE_callG (k := 22) (con_rneg C) (envOk_mk rfl) G (room.less (by decide)) (by decide) rfl ?_ rfl rfl rfl
  repeat walk_at "m.e"
  refine ⟨lb, w, p2, q2, rfl, hw, by omega, f2, ?_⟩
  rintro r σ₁ _ _ hle₁ fr ⟨rfl, rfl⟩
  repeat walk_at "m.e"
  exact ⟨la, r, w, p1, q1, -p2, _, rfl, hw, hw2, g1, ⟨g2.pos, by rw [Int.natAbs_neg]; exact g2.cop, by rw [Int.natAbs_neg]; exact g2.top, g2.bot⟩, f1.le hle₁, fr, ret.up hle₁⟩

/-- a test whose answer is known, whatever its ways -/
theorem WT_is {C : Cx} {A : Around} {g : Heap} {L : Addr} {E : Value → Shared → Prop} {m : LM} {σ : ST} {env : Env} {t : Expr} (v : Bool) {Q : Bool → LM → ST → Prop} (h : WT C A g L E m σ t env (fun x m' σ' => x = v ∧ m' = m ∧ σ' = σ)) (q : Q v m σ) : WT C A g L E m σ t env Q :=
  W_mono h fun x m' σ' ⟨e1, e2, e3⟩ => by subst e1 e2 e3; exact q

set_option maxHeartbeats 4000000 in
theorem con_rmul (C : Cx) : Con C 6 (defAt 25) (SROp C IsProd) := by
  refine Con.mk ["x", "y", "w", "mul", "divrem"] rfl defOk25 (by decide) ?_
  rintro g L q a cd A vs σ Q G room ⟨la, lb, w, p1, q1, p2, q2, rfl, hw, hw2, g1, g2, ⟨t1, l1, a1, ⟨n1, b1, b1'⟩, c1⟩, ⟨t2, l2, a2, ⟨n2, b2, b2'⟩, c2⟩, ret⟩
  refine ⟨rfl, ?_⟩
  have g1t := g1.top
  have g1b := g1.bot
  have g2t := g2.top
  have g2b := g2.bot
  have g1p := g1.pos
  have g2p := g2.pos
  have s1 := limbs_short hw (show p1.natAbs < 2 ^ 64 by omega)
  have s2 := limbs_short hw (show p2.natAbs < 2 ^ 64 by omega)
  ((conv in (dBody _) => whnf); (conv in (dScope _) => whnf); (try dsimp only [List.zip_cons_cons, List.zip_nil_left]))
  have hz1 : (limbs w p1.natAbs).length = 0 ↔ p1 = 0 := by
    have := len_pos hw (n := p1.natAbs)
    omega
  have hz2 : (limbs w p2.natAbs).length = 0 ↔ p2 = 0 := by
    have := len_pos hw (n := p2.natAbs)
    omega
  have one : limbs w 1 = [1] := limbs_one hw (by decide) (by
    have := Nat.pow_le_pow_right (show 0 < 2 by decide) hw
    omega)
  refine X_If ?_
  refine WT_is (decide (p1 = 0 ∨ p2 = 0)) ?_ ?_
  · repeat walk_at "m.e"
    refine if_dec (fun h => ?_) (fun h => ?_)
    · exact ⟨(decide_eq_true (Or.inl (hz1.mp (by omega)))).symm, rfl, rfl⟩
    · repeat walk_at "m.e"
      have e1 : p1 ≠ 0 := fun e => h (by have := hz1.mpr e; omega)
      refine ⟨decide_eq_decide.mpr ⟨fun e => .inr (hz2.mp (by omega)), fun e => ?_⟩, rfl, rfl⟩
      have := hz2.mpr (e.resolve_left e1)
      omega
  refine if_dec (fun h => ?_) (fun h => ?_)
  · walk_at "m.x"
    repeat walk_at "m.e"
    intro la' hla'
    repeat walk_at "m.e"
    intro lt hlt
    repeat walk_at "m.e"
    intro lo hlo
    repeat walk_at "m.e"
    intro r hr
    have L0 := Le.upd (o := LI []) (Le.refl σ) hla'
    have L1 := Le.upd (o := .tup [.bool false, .ref la']) (Le.refl (upd σ la' (LI []))) hlt
    generalize hσ₂ : upd (upd σ la' (LI [])) lt (.tup [.bool false, .ref la']) = σ₂ at *
    have k1 : σ₂ lt = some (.tup [.bool false, .ref la']) := by rw [← hσ₂]; exact upd_same _ _ _
    have k2 : σ₂ la' = some (LI []) := L1 _ _ (upd_same _ _ _)
    have L2 := Le.upd (o := LI [1]) (Le.refl σ₂) hlo
    generalize hσ₃ : upd σ₂ lo (LI [1]) = σ₃ at *
    have k3 : σ₃ lo = some (LI [1]) := by rw [← hσ₃]; exact upd_same _ _ _
    have L3 := Le.upd (o := .tup [.ref lt, .ref lo]) (Le.refl σ₃) hr
    refine ret r _ 0 1 (L0.trans (L1.trans (L2.trans L3))) ⟨lt, lo, upd_same _ _ _, ⟨la', L3 _ _ (L2 _ _ k1), ?_⟩, by rw [one]; exact L3 _ _ k3⟩ ?_
    · rw [show limbs w (0 : Int).natAbs = [] from limbs_zero w]
      exact L3 _ _ (L2 _ _ k2)
    · refine ⟨by decide, ?_, rfl⟩
      rcases h with h | h <;> rw [h] <;> simp
  · have hp1 : p1 ≠ 0 := fun e => h (.inl e)
    have hp2 : p2 ≠ 0 := fun e => h (.inr e)
    repeat walk_at "m.x"
    obtain ⟨x, hx⟩ : ∃ x, x = Nat.gcd p1.natAbs q2 := ⟨_, rfl⟩
    obtain ⟨y, hy⟩ : ∃ y, y = Nat.gcd p2.natAbs q1 := ⟨_, rfl⟩
    have hx0 : 0 < x := by rw [hx]; exact Nat.gcd_pos_of_pos_right _ g2p
    have hy0 : 0 < y := by rw [hy]; exact Nat.gcd_pos_of_pos_right _ g1p
    obtain ⟨u1, e1⟩ : ∃ u1 : Int, p1 = u1 * x := by
      have : (x : Int) ∣ p1 := Int.ofNat_dvd_left.mpr (by rw [hx]; exact Nat.gcd_dvd_left _ _)
      obtain ⟨c, hc⟩ := this
      exact ⟨c, by rw [hc, Int.mul_comm]⟩
    obtain ⟨u2, e2⟩ : ∃ u2 : Int, p2 = u2 * y := by
      have : (y : Int) ∣ p2 := Int.ofNat_dvd_left.mpr (by rw [hy]; exact Nat.gcd_dvd_left _ _)
      obtain ⟨c, hc⟩ := this
      exact ⟨c, by rw [hc, Int.mul_comm]⟩
    obtain ⟨r1, f1⟩ : ∃ r1, q1 = r1 * y := by
      have : y ∣ q1 := by rw [hy]; exact Nat.gcd_dvd_right _ _
      obtain ⟨c, hc⟩ := this
      exact ⟨c, by rw [hc, Nat.mul_comm]⟩
    obtain ⟨r2, f2⟩ : ∃ r2, q2 = r2 * x := by
      have : x ∣ q2 := by rw [hx]; exact Nat.gcd_dvd_right _ _
      obtain ⟨c, hc⟩ := this
      exact ⟨c, by rw [hc, Nat.mul_comm]⟩
    obtain ⟨m1, m2⟩ := mul_least g1.cop g2.cop g1p g2p hx hy e1 e2 f1 f2
    have hr1 : 0 < r1 := Nat.pos_of_ne_zero fun e => by rw [e] at f1; omega
    have hr2 : 0 < r2 := Nat.pos_of_ne_zero fun e => by rw [e] at f2; omega
    have br1 : r1 ≤ q1 := by rw [f1]; exact Nat.le_mul_of_pos_right r1 hy0
    have br2 : r2 ≤ q2 := by rw [f2]; exact Nat.le_mul_of_pos_right r2 hx0
    have bx : x ≤ q2 := by rw [f2]; exact Nat.le_mul_of_pos_left x hr2
    have bY : y ≤ q1 := by rw [f1]; exact Nat.le_mul_of_pos_left y hr1
    have bu1 : u1.natAbs ≤ p1.natAbs := by rw [e1, Int.natAbs_mul, Int.natAbs_natCast]; exact Nat.le_mul_of_pos_right _ hx0
    have bu2 : u2.natAbs ≤ p2.natAbs := by rw [e2, Int.natAbs_mul, Int.natAbs_natCast]; exact Nat.le_mul_of_pos_right _ hy0
    have d1 : q1 / y = r1 := by rw [f1, Nat.mul_div_cancel _ hy0]
    have d2 : q2 / x = r2 := by rw [f2, Nat.mul_div_cancel _ hx0]
    -- one, other
    repeat walk_at "m.x"
    repeat walk_at "m.e"
    refine WE_callG (k := 19) (con_common C) (envOk_mk rfl) G (room.less (by decide)) (by decide) rfl ?_ rfl rfl rfl
    repeat walk_at "m.e"
    refine ⟨n1, l2, w, p1.natAbs, q2, rfl, hw, hw2, by omega, by omega, b1', c2, ?_⟩
    intro lx σ₁ hle₁ hlx0 hlx
    rw [← hx] at hlx
    have a1 := hle₁ _ _ a1
    have a2 := hle₁ _ _ a2
    have b1 := hle₁ _ _ b1
    have b2 := hle₁ _ _ b2
    have b1' := hle₁ _ _ b1'
    have b2' := hle₁ _ _ b2'
    have c1 := hle₁ _ _ c1
    have c2 := hle₁ _ _ c2
    repeat walk_at "m.e"
    refine WE_callG (k := 19) (con_common C) (envOk_mk rfl) G (room.less (by decide)) (by decide) rfl ?_ rfl rfl rfl
    repeat walk_at "m.e"
    refine ⟨n2, l1, w, p2.natAbs, q1, rfl, hw, hw2, by omega, by omega, b2', c1, ?_⟩
    intro ly σ₂ hle₂ hly0 hly
    rw [← hy] at hly
    repeat walk_at "m.e"
    intro t5 ht5
    repeat walk_at "m.e"
    have l5 := Le.upd (o := .tup [.ref lx, .ref ly]) (Le.refl σ₂) ht5
    have L5 := hle₂.trans l5
    have a1 := L5 _ _ a1
    have a2 := L5 _ _ a2
    have b1 := L5 _ _ b1
    have b2 := L5 _ _ b2
    have b1' := L5 _ _ b1'
    have b2' := L5 _ _ b2'
    have c1 := L5 _ _ c1
    have c2 := L5 _ _ c2
    have hlx := L5 _ _ hlx
    have hly := l5 _ _ hly
    have L5 := hle₁.trans L5
    generalize upd σ₂ t5 (.tup [.ref lx, .ref ly]) = σ₅ at *
    -- top
    walk_at "m.x"
    refine WE_callG (k := 17) (con_mulS C) (envOk_mk rfl) G (room.less (by decide)) (by decide) rfl ?_ rfl rfl rfl
    walk_at "m.e"
    refine WE_callG (k := 20) (con_cut C) (envOk_mk rfl) G (room.less (by decide)) (by decide) rfl ?_ rfl rfl rfl
    repeat walk_at "m.e"
    refine ⟨t1, lx, w, x, u1, rfl, hw, hw2, hx0, by omega, by rw [← e1]; omega, ⟨n1, by rw [← e1]; exact b1, by rw [← e1]; exact b1'⟩, hlx, ?_⟩
    intro ls1 σ₆ hle₆ hls1
    have a1 := hle₆ _ _ a1
    have a2 := hle₆ _ _ a2
    have b2 := hle₆ _ _ b2
    have b2' := hle₆ _ _ b2'
    have c1 := hle₆ _ _ c1
    have c2 := hle₆ _ _ c2
    have hlx := hle₆ _ _ hlx
    have hly := hle₆ _ _ hly
    repeat walk_at "m.e"
    refine WE_callG (k := 20) (con_cut C) (envOk_mk rfl) G (room.less (by decide)) (by decide) rfl ?_ rfl rfl rfl
    repeat walk_at "m.e"
    refine ⟨t2, ly, w, y, u2, rfl, hw, hw2, hy0, by omega, by rw [← e2]; omega, ⟨n2, by rw [← e2]; exact b2, by rw [← e2]; exact b2'⟩, hly, ?_⟩
    intro ls2 σ₇ hle₇ hls2
    repeat walk_at "m.e"
    refine ⟨ls1, ls2, w, u1, u2, rfl, hw, hw2, by omega, by omega, hls1.le hle₇, hls2, ?_⟩
    intro lt σ₈ hle₈ htop
    have L8 := hle₇.trans hle₈
    have a1 := L8 _ _ a1
    have a2 := L8 _ _ a2
    have c1 := L8 _ _ c1
    have c2 := L8 _ _ c2
    have hlx := L8 _ _ hlx
    have hly := L8 _ _ hly
    walk_at "m.x"
    repeat walk_at "m.e"
    refine WE_callL (k := 30) (con_mul C) (envOk_mk rfl) G (room.less (by decide)) (by decide) rfl ?_ rfl rfl rfl
    repeat walk_at "m.e"
    refine WE_callL (k := 36) (con_divrem C) (envOk_mk rfl) G (room.less (by decide)) (by decide) rfl ?_ rfl rfl rfl
    repeat walk_at "m.e"
    refine ⟨l1, ly, w, q1, y, rfl, hw, hw2, by omega, hy0, by omega, c1, hly, ?_⟩
    intro t6 lr1 r6 σ₉ hle₉ ht6 hlr1 hr6
    rw [d1] at hlr1
    have a2 := hle₉ _ _ a2
    have c2 := hle₉ _ _ c2
    have hlx := hle₉ _ _ hlx
    repeat walk_at "m.e"
    refine WE_callL (k := 36) (con_divrem C) (envOk_mk rfl) G (room.less (by decide)) (by decide) rfl ?_ rfl rfl rfl
    repeat walk_at "m.e"
    refine ⟨l2, lx, w, q2, x, rfl, hw, hw2, by omega, hx0, by omega, c2, hlx, ?_⟩
    intro t7 lr2 r7 σ₁₀ hle₁₀ ht7 hlr2 hr7
    rw [d2] at hlr2
    have hlr1 := hle₁₀ _ _ hlr1
    repeat walk_at "m.e"
    refine ⟨lr1, lr2, w, r1, r2, rfl, hw, hw2, by omega, by omega, hlr1, hlr2, ?_⟩
    intro lb2 σ₁₁ hle₁₁ _ hlb2
    repeat walk_at "m.e"
    intro res hres
    have eL := Le.upd (o := .tup [.ref lt, .ref lb2]) (Le.refl σ₁₁) hres
    exact ret res _ (u1 * u2) (r1 * r2) (L5.trans (hle₆.trans (L8.trans (hle₉.trans (hle₁₀.trans (hle₁₁.trans eL)))))) ⟨lt, lb2, upd_same _ _ _, htop.le (hle₉.trans (hle₁₀.trans (hle₁₁.trans eL))), eL _ _ hlb2⟩ ⟨Nat.mul_pos hr1 hr2, m1, m2⟩

def SRInv : Spec := fun vs σ K => ∃ a w, ∃ p : Int, ∃ q : Nat, vs = [.ref a] ∧ 1 ≤ w ∧ p ≠ 0 ∧ p.natAbs < 2 ^ 64 ∧ q < 2 ^ 64 ∧ 0 < q ∧ FR σ w a p q ∧ RetF σ w K (fun p' q' => p' = (if p < 0 then -(q : Int) else q) ∧ q' = p.natAbs)
set_option maxHeartbeats 2000000 in
theorem con_rinv (C : Cx) : Con C 2 (defAt 26) SRInv := by
  refine Con.mk ["x"] rfl defOk26 (by decide) ?_
  rintro g L q a cd A vs σ Q G room ⟨la, w, p, q, rfl, hw, hp, hpb, hqb, hq0, ⟨t1, l1, a1, ⟨n1, b1, b1'⟩, c1⟩, ret⟩
  refine ⟨rfl, ?_⟩
  have s1 := limbs_short hw hpb
  have hz1 := len_pos hw (n := p.natAbs)
  ((conv in (dBody _) => whnf); (conv in (dScope _) => whnf); (try dsimp only [List.zip_cons_cons, List.zip_nil_left]))
  walk_at "m.x"
  repeat walk_at "m.e"
  refine if_dec (fun h => ?_) (fun h => ?_)
  · omega
  repeat walk_at "m.x"
  repeat walk_at "m.e"
  intro lt hlt
  have L0 := Le.upd (o := .tup [.bool (decide (p < 0)), .ref l1]) (Le.refl σ) hlt
  repeat walk_at "m.e"
  intro r hr
  have L1 := Le.upd (o := .tup [.ref lt, .ref n1]) (Le.refl _) hr
  refine ret r _ _ _ (L0.trans L1) ⟨lt, n1, upd_same _ _ _, ⟨l1, ?_, ?_⟩, ?_⟩ ⟨rfl, rfl⟩
  · rw [L1 _ _ (upd_same _ _ _)]
    by_cases h0 : p < 0
    · rw [if_pos h0]; simp [h0]; omega
    · rw [if_neg h0]; simp [h0]
  · have : (if p < 0 then -(q : Int) else (q : Int)).natAbs = q := by split <;> omega
    rw [this]; exact L1 _ _ (L0 _ _ c1)
  · exact L1 _ _ (L0 _ _ b1')

def IsQuot (p1 : Int) (q1 : Nat) (p2 : Int) (q2 : Nat) (p : Int) (q : Nat) : Prop := 0 < q ∧ p * ((q1 : Int) * p2) = (p1 * q2) * (q : Int) ∧ Nat.gcd p.natAbs q = 1
def SRDiv (C : Cx) : Spec := fun vs σ K => ∃ a b w, ∃ p1 : Int, ∃ q1 : Nat, ∃ p2 : Int, ∃ q2 : Nat, vs = [.ref a, .ref b, .int ((w : Nat) : Int), .ref (fa C 30), .ref (fa C 36)] ∧ 1 ≤ w ∧ w ≤ 30 ∧ Good p1 q1 ∧ Good p2 q2 ∧ p2 ≠ 0 ∧
  FR σ w a p1 q1 ∧ FR σ w b p2 q2 ∧ RetF σ w K (IsQuot p1 q1 p2 q2)
set_option maxHeartbeats 2000000 in
theorem con_rdiv (C : Cx) : Con C 7 (defAt 27) (SRDiv C) := by
  refine Con.mk ["x", "y", "w", "mul", "divrem"] rfl defOk27 (by decide) ?_
  rintro g L q a cd A vs σ Q G room ⟨la, lb, w, p1, q1, p2, q2, rfl, hw, hw2, g1, g2, hp2, f1, f2, ret⟩
  refine ⟨rfl, ?_⟩
  have g2t := g2.top
  have g2b := g2.bot
  have g2p := g2.pos
  ((conv in (dBody _) => whnf); (conv in (dScope _) => whnf); (try dsimp only [List.zip_cons_cons, List.zip_nil_left]))
  walk_at "m.x"
  refine WE_callG (k := 25) (con_rmul C) (envOk_mk rfl) G (room.less (by decide)) (by decide) rfl ?_ rfl rfl rfl
  repeat walk_at "m.e"
  refine WE_callG (k := 26) (con_rinv C) (envOk_mk rfl) G (room.less (by decide)) (by decide) rfl ?_ rfl rfl rfl
  repeat walk_at "m.e"
  refine ⟨lb, w, p2, q2, rfl, hw, hp2, by omega, by omega, g2p, f2, ?_⟩
  rintro r σ₁ _ _ hle₁ fr ⟨rfl, rfl⟩
  repeat walk_at "m.e"
  have ab : (if p2 < 0 then -(q2 : Int) else (q2 : Int)).natAbs = q2 := by split <;> omega
  refine ⟨la, r, w, p1, q1, _, _, rfl, hw, hw2, g1, ⟨by omega, by rw [ab, Nat.gcd_comm]; exact g2.cop, by rw [ab]; exact g2b, g2t⟩, f1.le hle₁, fr, ?_⟩
  intro r' σ₂ p' q' hle₂ fr' ⟨k1, k2, k3⟩
  refine ret r' σ₂ p' q' (hle₁.trans hle₂) fr' ⟨k1, ?_, k3⟩
  by_cases h0 : p2 < 0
  · rw [if_pos h0] at k2
    have : (p2.natAbs : Int) = -p2 := by omega
    rw [this] at k2
    grind
  · rw [if_neg h0] at k2
    have : (p2.natAbs : Int) = p2 := by omega
    rw [this] at k2
    exact k2

theorem Le.upd' {σ₀ σ : ST} {a : Addr} {o : MO} (h : Le σ₀ σ) (hn : σ a = none) : Le σ₀ (Mine.upd σ a o) := h.trans (Le.upd (Le.refl σ) hn)
theorem defOk38 : DefOk (defAt 38) := ⟨by decide, by decide, rfl, rfl, rfl, fun vals _ _ _ _ _ h => by
  obtain ⟨a, b, rfl⟩ := len2 h
  rfl⟩
theorem defOk39 : DefOk (defAt 39) := ⟨by decide, by decide, rfl, rfl, rfl, fun vals _ _ _ _ _ h => by
  obtain ⟨a, b, rfl⟩ := len2 h
  rfl⟩
theorem defOk40 : DefOk (defAt 40) := ⟨by decide, by decide, rfl, rfl, rfl, fun vals _ _ _ _ _ h => by
  obtain ⟨a, b, rfl⟩ := len2 h
  rfl⟩

/-- the drawn path: how far, and the feet -/
def SWalk : Spec := fun vs σ K => ∃ p f c many feet, vs = [.ref p, .int many] ∧ 0 < many ∧ many < 2 ^ 20 ∧ 0 ≤ c ∧ c ≤ 1000 ∧ f ≠ p ∧ σ p = some (.list [.int c, .ref f]) ∧ σ f = some (LI feet) ∧ feet.length ≤ 16 ∧
  ∀ r, 0 ≤ r → r < many → K (.int r) (upd σ p (.list [.int (c + 1), .ref f]))
set_option maxHeartbeats 2000000 in
theorem con_walked (C : Cx) : Con C 2 (defAt 38) SWalk := by
  refine Con.mk ["path", "many"] rfl defOk38 (by decide) ?_
  rintro g L q a cd A vs σ Q G room ⟨p, f, c, many, feet, rfl, hm0, hm1, hc0, hc1, hne, hp, hf, hlen, ret⟩
  refine ⟨rfl, ?_⟩
  ((conv in (dBody _) => whnf); (conv in (dScope _) => whnf); (try dsimp only [List.zip_cons_cons, List.zip_nil_left]))
  walk_at "m.x"
  repeat walk_at "m.e"
  refine itemK_any hp (by decide) (by decide) rfl ?_
  repeat walk_at "m.e"
  refine ⟨p, 0, _, rfl, rfl, hp, by decide, by simp, by simp, ?_⟩
  have e : ([V.int c, V.ref f] : List V).set (Int.toNat 0) (.int (c + 1)) = [.int (c + 1), .ref f] := rfl
  rw [e]
  clear e
  have hp' : upd σ p (.list [.int (c + 1), .ref f]) p = some (.list [.int (c + 1), .ref f]) := upd_same _ _ _
  have hf' : upd σ p (.list [.int (c + 1), .ref f]) f = some (LI feet) := by rw [upd_ne hne]; exact hf
  generalize upd σ p (.list [.int (c + 1), .ref f]) = σ₁ at *
  walk_at "m.x"
  repeat walk_at "m.e"
  refine itemK_any hp' (by decide) (by decide) rfl ?_
  repeat walk_at "m.e"
  refine itemK_any hp' (by decide) (by decide) rfl ?_
  repeat walk_at "m.e"
  refine if_dec (fun h => ?_) (fun h => ?_)
  · walk_at "m.x"
    repeat walk_at "m.e"
    refine itemK_any hp' (by decide) (by decide) rfl ?_
    repeat walk_at "m.e"
    refine itemK_any hp' (by decide) (by decide) rfl ?_
    repeat walk_at "m.e"
    exact ret _ (Int.emod_nonneg _ (by omega)) (Int.emod_lt_of_pos _ hm0)
  · repeat walk_at "m.x"
    repeat walk_at "m.e"
    refine itemK_any hp' (by decide) (by decide) rfl ?_
    repeat walk_at "m.e"
    refine itemK_any hp' (by decide) (by decide) rfl ?_
    repeat walk_at "m.e"
    exact ret _ (Int.emod_nonneg _ (by omega)) (Int.emod_lt_of_pos _ hm0)

/-- least terms of t / b -/
structure Least (t b p : Int) (q : Nat) : Prop where
  pos : 0 < q
  eq : p * b = t * q
  cop : Nat.gcd p.natAbs q = 1
  top : p.natAbs ≤ t.natAbs
  bot : q ≤ b.natAbs
def SLeast : Spec := fun vs σ K => ∃ t b : Int, vs = [.int t, .int b] ∧ b ≠ 0 ∧ t.natAbs < 2 ^ 60 ∧ b.natAbs < 2 ^ 60 ∧
  ∀ r σ' p q, Le σ σ' → σ' r = some (.tup [.int p, .int ((q : Nat) : Int)]) → Least t b p q → K (.ref r) σ'

theorem least_of {t b : Int} (hb : b ≠ 0) : ∃ (p : Int) (q : Nat), Least t b p q ∧
    t = p * (if b > 0 then (Nat.gcd t.natAbs b.natAbs : Int) else 0 - (Nat.gcd t.natAbs b.natAbs : Int)) ∧ b = (q : Int) * (if b > 0 then (Nat.gcd t.natAbs b.natAbs : Int) else 0 - (Nat.gcd t.natAbs b.natAbs : Int)) := by
  have hb0 : 0 < b.natAbs := by omega
  have hg0 : 0 < Nat.gcd t.natAbs b.natAbs := Nat.gcd_pos_of_pos_right _ hb0
  obtain ⟨x, hx⟩ := Nat.gcd_dvd_left t.natAbs b.natAbs
  obtain ⟨y, hy⟩ := Nat.gcd_dvd_right t.natAbs b.natAbs
  have hxy : Nat.gcd x y = 1 := by
    have := Nat.gcd_mul_left (Nat.gcd t.natAbs b.natAbs) x y
    rw [← hx, ← hy] at this
    have h3 : Nat.gcd t.natAbs b.natAbs * Nat.gcd x y = Nat.gcd t.natAbs b.natAbs * 1 := by omega
    exact Nat.eq_of_mul_eq_mul_left hg0 h3
  generalize Nat.gcd t.natAbs b.natAbs = d at *
  have hy0 : 0 < y := Nat.pos_of_ne_zero fun e => by rw [e] at hy; omega
  have lx : x ≤ t.natAbs := by rw [hx]; exact Nat.le_mul_of_pos_left _ hg0
  have ly : y ≤ b.natAbs := by rw [hy]; exact Nat.le_mul_of_pos_left _ hg0
  have et : (t.natAbs : Int) = d * x := by rw [hx]; push_cast; rfl
  have eb : (b.natAbs : Int) = d * y := by rw [hy]; push_cast; rfl
  obtain ⟨p, hp, hp2⟩ : ∃ p : Int, p.natAbs = x ∧ ((0 ≤ t ∧ 0 < b ∧ p = x) ∨ (0 ≤ t ∧ b < 0 ∧ p = -x) ∨ (t < 0 ∧ 0 < b ∧ p = -x) ∨ (t < 0 ∧ b < 0 ∧ p = x)) := by
    by_cases h1 : 0 ≤ t <;> by_cases h2 : 0 < b
    · exact ⟨x, by omega, by omega⟩
    · exact ⟨-x, by omega, by omega⟩
    · exact ⟨-x, by omega, by omega⟩
    · exact ⟨x, by omega, by omega⟩
  have k1 : t = p * (if b > 0 then (d : Int) else 0 - (d : Int)) := by
    rcases hp2 with ⟨h1, h2, h3⟩ | ⟨h1, h2, h3⟩ | ⟨h1, h2, h3⟩ | ⟨h1, h2, h3⟩
    · rw [if_pos h2, h3, Int.mul_comm]; omega
    · rw [if_neg (by omega), h3, Int.zero_sub, Int.neg_mul_neg, Int.mul_comm]; omega
    · rw [if_pos h2, h3, Int.neg_mul, Int.mul_comm]; omega
    · rw [if_neg (by omega), h3, Int.zero_sub, Int.mul_neg, Int.mul_comm]; omega
  have k2 : b = (y : Int) * (if b > 0 then (d : Int) else 0 - (d : Int)) := by
    by_cases h2 : 0 < b
    · rw [if_pos h2, Int.mul_comm]; omega
    · rw [if_neg (by omega), Int.zero_sub, Int.mul_neg, Int.mul_comm]; omega
  refine ⟨p, y, ⟨hy0, ?_, by rw [hp]; exact hxy, by omega, ly⟩, k1, k2⟩
  generalize (if b > 0 then (d : Int) else 0 - (d : Int)) = e at *
  rw [k1, k2]; grind

set_option maxHeartbeats 2000000 in
theorem con_least (C : Cx) : Con C 2 (defAt 39) SLeast := by
  refine Con.mk ["top", "bottom"] rfl defOk39 (by decide) ?_
  rintro g L q a cd A vs σ Q G room ⟨t, b, rfl, hb, ht, hbb, ret⟩
  refine ⟨rfl, ?_⟩
  ((conv in (dBody _) => whnf); (conv in (dScope _) => whnf); (try dsimp only [List.zip_cons_cons, List.zip_nil_left]))
  walk_at "m.x"
  repeat walk_at "m.e"
  intro r1 hr1
  repeat walk_at "m.e"
  have l1 := Le.upd (o := .tup [.int (if t < 0 then -t else t), .int (if b < 0 then -b else b)]) (Le.refl σ) hr1
  generalize upd σ r1 _ = σ₁ at *
  have et : (if t < 0 then -t else t) = (t.natAbs : Int) := by split <;> omega
  have eb : (if b < 0 then -b else b) = (b.natAbs : Int) := by split <;> omega
  rw [et, eb]
  refine X_While (fun j : Nat × Nat => j.2) (fun j => [(Str.ofString "one", .int (j.1 : Int)), (Str.ofString "other", .int (j.2 : Int)), (Str.ofString "top", .int t), (Str.ofString "bottom", .int b)])
    (fun j σ' => Le σ σ' ∧ j.1 < 2 ^ 60 ∧ j.2 < 2 ^ 60 ∧ Nat.gcd j.1 j.2 = Nat.gcd t.natAbs b.natAbs) (t.natAbs, b.natAbs) (by (repeat' first | (with_reducible exact Sub.refl _) | (with_reducible exact Sub.nil _) | (with_reducible refine' Sub.cons ?_ ?_) | rfl)) ⟨l1, ht, hbb, rfl⟩ ?_
  rintro ⟨u, v⟩ σ' ⟨hle, hu, hv, hg⟩
  dsimp only at hu hv hg
  repeat walk_at "m.e"
  refine if_dec (fun h => ?_) (fun h => ?_)
  · walk_at "m.x"
    repeat walk_at "m.e"
    intro r2 hr2
    repeat walk_at "m.e"
    repeat walk_at "m.x"
    have e : (u : Int) % (v : Int) = ((u % v : Nat) : Int) := by push_cast; rfl
    rw [e]
    have hv0 : 0 < v := by omega
    have hlt : u % v < v := Nat.mod_lt _ hv0
    refine ⟨(v, u % v), hlt, by (repeat' first | (with_reducible exact Sub.refl _) | (with_reducible exact Sub.nil _) | (with_reducible refine' Sub.cons ?_ ?_) | rfl), hle.upd' hr2, hv, by dsimp only; omega, ?_⟩
    dsimp only
    rw [← hg, Nat.gcd_comm v, ← Nat.gcd_rec, Nat.gcd_comm]
  · have hv0 : v = 0 := by omega
    subst hv0
    rw [Nat.gcd_zero_right] at hg
    obtain ⟨p, q, lst, k1, k2⟩ := least_of (t := t) hb
    rw [← hg] at k1 k2
    have hu0 : 0 < u := by rw [hg]; exact Nat.gcd_pos_of_pos_right _ (by omega)
    walk_at "m.x"
    refine WE_is (.int (if b > 0 then (u : Int) else 0 - (u : Int))) ?_ ?_
    · (with_reducible refine' WE_IfExp ?_)
      repeat walk_at "m.e"
      refine if_dec (fun h => ?_) (fun h => ?_)
      · repeat walk_at "m.e"
        exact ⟨by rw [if_pos h], rfl, rfl⟩
      · repeat walk_at "m.e"
        exact ⟨by rw [if_neg h], rfl, rfl⟩
    obtain ⟨d, hd⟩ : ∃ d, d = (if b > 0 then (u : Int) else 0 - (u : Int)) := ⟨_, rfl⟩
    rw [← hd] at k1 k2 ⊢
    have hd0 : d ≠ 0 := by rw [hd]; split <;> omega
    have hd1 : d.natAbs < 2 ^ 64 := by rw [hd]; split <;> omega
    have f1 : t.fdiv d = p := by rw [k1]; exact Int.mul_fdiv_cancel _ hd0
    have f2 : b.fdiv d = q := by rw [k2]; exact Int.mul_fdiv_cancel _ hd0
    walk_at "m.x"
    repeat walk_at "m.e"
    refine arithK_fdiv hd0 hd1 ?_
    repeat walk_at "m.e"
    refine arithK_fdiv hd0 hd1 ?_
    rw [f1, f2]
    repeat walk_at "m.e"
    intro r hr
    exact ret r _ p q (hle.upd' hr) (upd_same _ _ _) lst

def SLimbs : Spec := fun vs σ K => ∃ n w : Nat, vs = [.int (n : Int), .int (w : Int)] ∧ 1 ≤ w ∧ w ≤ 30 ∧ n < 2 ^ 60 ∧ RetL σ K (limbs w n)
set_option maxHeartbeats 2000000 in
theorem con_limbs (C : Cx) : Con C 2 (defAt 40) SLimbs := by
  refine Con.mk ["number", "w"] rfl defOk40 (by decide) ?_
  rintro g L q a cd A vs σ Q G room ⟨n, w, rfl, hw, hw2, hn, ret⟩
  refine ⟨rfl, ?_⟩
  have sh := limbs_short hw (show n < 2 ^ 64 by omega)
  ((conv in (dBody _) => whnf); (conv in (dScope _) => whnf); (try dsimp only [List.zip_cons_cons, List.zip_nil_left]))
  walk_at "m.x"
  repeat walk_at "m.e"
  intro lf hlf
  have l1 := Le.upd (o := LI []) (Le.refl σ) hlf
  refine X_While (fun j : Nat × List Int => j.1) (fun j => [(Str.ofString "found", .ref lf), (Str.ofString "number", .int (j.1 : Int)), (Str.ofString "w", .int (w : Int))])
    (fun j σ' => Le σ σ' ∧ σ' lf = some (LI j.2) ∧ j.1 < 2 ^ 60 ∧ limbs w n = j.2 ++ limbs w j.1) (n, []) (by (repeat' first | (with_reducible exact Sub.refl _) | (with_reducible exact Sub.nil _) | (with_reducible refine' Sub.cons ?_ ?_) | rfl)) ⟨l1, upd_same _ _ _, hn, rfl⟩ ?_
  rintro ⟨k, ns⟩ σ' ⟨hle, hf, hk, hl⟩
  dsimp only at hf hk hl
  have hp : 0 < 2 ^ w := Nat.pow_pos (by decide)
  have hp1 : 2 ≤ 2 ^ w := by
    have := Nat.pow_le_pow_right (show 0 < 2 by decide) hw
    omega
  have hp2 : 2 ^ w ≤ 2 ^ 30 := Nat.pow_le_pow_right (by decide) hw2
  have hpi : (2 : Int) ^ w = ((2 ^ w : Nat) : Int) := by push_cast; rfl
  have hlen : ns.length ≤ 64 := by
    have := congrArg List.length hl
    rw [List.length_append] at this
    omega
  repeat walk_at "m.e"
  refine if_dec (fun h => ?_) (fun h => ?_)
  · refine X_appendI (envOk_mk rfl) rfl ⟨_, hf⟩ rfl (by decide) rfl rfl rfl rfl rfl rfl ?_
    repeat walk_at "m.e"
    walk_at "m.x"
    repeat walk_at "m.e"
    rw [hpi]
    repeat walk_at "m.x"
    have hne : n ≠ 0 := by
      intro e
      rw [e, limbs_zero] at hl
      have := congrArg List.length hl
      rw [List.length_append, limbs_pos hw (show k ≠ 0 by omega)] at this
      simp at this
    have e1 : (k : Int) / ((2 ^ w : Nat) : Int) = ((k / 2 ^ w : Nat) : Int) := by push_cast; rfl
    have e2 : (k : Int) % ((2 ^ w : Nat) : Int) = ((k % 2 ^ w : Nat) : Int) := by push_cast; rfl
    rw [e1, e2]
    have hdk : k / 2 ^ w < k := Nat.div_lt_self (by omega) hp1
    refine ⟨(k / 2 ^ w, ns ++ [((k % 2 ^ w : Nat) : Int)]), hdk, by (repeat' first | (with_reducible exact Sub.refl _) | (with_reducible exact Sub.nil _) | (with_reducible refine' Sub.cons ?_ ?_) | rfl), ?_, upd_same _ _ _, by dsimp only; omega, ?_⟩
    · intro b o e
      have : b ≠ lf := fun q => by rw [q, hlf] at e; cases e
      rw [upd_ne this]
      exact hle _ _ e
    · dsimp only
      rw [hl, limbs_pos hw (show k ≠ 0 by omega), List.append_assoc]; rfl
  · have hk0 : k = 0 := by omega
    subst hk0
    rw [limbs_zero, List.append_nil] at hl
    repeat walk_at "m.x"
    repeat walk_at "m.e"
    exact ret lf σ' hle hlf (by rw [hl]; exact hf)

theorem defOk41 : DefOk (defAt 41) := ⟨by decide, by decide, rfl, rfl, rfl, fun vals _ _ _ _ _ h => by
  obtain ⟨a, b, rfl⟩ := len2 h
  rfl⟩
theorem defOk42 : DefOk (defAt 42) := ⟨by decide, by decide, rfl, rfl, rfl, fun vals _ _ _ _ _ h => by
  obtain ⟨a, rfl⟩ := len1 h
  rfl⟩
theorem defOk43 : DefOk (defAt 43) := ⟨by decide, by decide, rfl, rfl, rfl, fun vals _ _ _ _ _ h => by
  obtain ⟨a, b, c, rfl⟩ := len3 h
  rfl⟩

def SFrac : Spec := fun vs σ K => ∃ a w, ∃ p : Int, ∃ q : Nat, vs = [.ref a, .int ((w : Nat) : Int)] ∧ 1 ≤ w ∧ w ≤ 30 ∧ p.natAbs < 2 ^ 60 ∧ q < 2 ^ 60 ∧ σ a = some (.tup [.int p, .int (q : Int)]) ∧ RetF σ w K (fun p' q' => p' = p ∧ q' = q)
set_option maxHeartbeats 2000000 in
theorem con_frac (C : Cx) : Con C 3 (defAt 41) SFrac := by
  refine Con.mk ["pair", "w"] rfl defOk41 (by decide) ?_
  rintro g L q a cd A vs σ Q G room ⟨la, w, p, q, rfl, hw, hw2, hp, hq, ha, ret⟩
  refine ⟨rfl, ?_⟩
  ((conv in (dBody _) => whnf); (conv in (dScope _) => whnf); (try dsimp only [List.zip_cons_cons, List.zip_nil_left]))
  walk_at "m.x"
  repeat walk_at "m.e"
  refine WE_callG (k := 40) (con_limbs C) (envOk_mk rfl) G (room.less (by decide)) (by decide) rfl ?_ rfl rfl rfl
  repeat walk_at "m.e"
  have e : (if p < 0 then -p else p) = (p.natAbs : Int) := by split <;> omega
  rw [e]
  refine ⟨p.natAbs, w, rfl, hw, hw2, hp, ?_⟩
  intro l1 σ₁ hle₁ hl1 hl1'
  have ha := hle₁ _ _ ha
  repeat walk_at "m.e"
  intro t ht
  have l2 := Le.upd (o := .tup [.bool (decide (p < 0)), .ref l1]) (Le.refl σ₁) ht
  have ht' := upd_same σ₁ t (.tup [.bool (decide (p < 0)), .ref l1])
  generalize upd σ₁ t _ = σ₂ at *
  have ha := l2 _ _ ha
  have hl1' := l2 _ _ hl1'
  repeat walk_at "m.e"
  refine WE_callG (k := 40) (con_limbs C) (envOk_mk rfl) G (room.less (by decide)) (by decide) rfl ?_ rfl rfl rfl
  repeat walk_at "m.e"
  refine ⟨q, w, rfl, hw, hw2, hq, ?_⟩
  intro l3 σ₃ hle₃ hl3 hl3'
  repeat walk_at "m.e"
  intro r hr
  have l4 := Le.upd (o := .tup [.ref t, .ref l3]) (Le.refl σ₃) hr
  refine ret r _ p q (hle₁.trans (l2.trans (hle₃.trans l4))) ⟨t, l3, upd_same _ _ _, ⟨l1, ?_, ?_⟩, l4 _ _ hl3'⟩ ⟨rfl, rfl⟩
  · exact l4 _ _ (hle₃ _ _ ht')
  · exact l4 _ _ (hle₃ _ _ hl1')

/-- the path object at c feet -/
def Path (σ : ST) (p f : Addr) (feet : List Int) (c : Int) : Prop := f ≠ p ∧ feet.length ≤ 16 ∧ σ p = some (.list [.int c, .ref f]) ∧ σ f = some (LI feet)

def SDrawn : Spec := fun vs σ K => ∃ p f feet c, vs = [.ref p] ∧ Path σ p f feet c ∧ 0 ≤ c ∧ c ≤ 990 ∧
  ∀ r σ' t b, LeBut p σ σ' → Path σ' p f feet (c + 2) → r ≠ p → σ' r = some (.tup [.int t, .int ((b : Nat) : Int)]) → 0 < b → b ≤ 9 → t.natAbs ≤ 9 → Nat.gcd t.natAbs b = 1 → K (.ref r) σ'
set_option maxHeartbeats 2000000 in
theorem con_drawn (C : Cx) : Con C 3 (defAt 42) SDrawn := by
  refine Con.mk ["path"] rfl defOk42 (by decide) ?_
  rintro g L q a cd A vs σ Q G room ⟨p, f, feet, c, rfl, ⟨hne, hlen, hp, hf⟩, hc0, hc1, ret⟩
  refine ⟨rfl, ?_⟩
  ((conv in (dBody _) => whnf); (conv in (dScope _) => whnf); (try dsimp only [List.zip_cons_cons, List.zip_nil_left]))
  walk_at "m.x"
  refine WE_callG (k := 39) (con_least C) (envOk_mk rfl) G (room.less (by decide)) (by decide) rfl ?_ rfl rfl rfl
  repeat walk_at "m.e"
  refine WE_callG (k := 38) (con_walked C) (envOk_mk rfl) G (room.less (by decide)) (by decide) rfl ?_ rfl rfl rfl
  repeat walk_at "m.e"
  refine ⟨p, f, c, 19, feet, rfl, by decide, by decide, hc0, by omega, hne, hp, hf, hlen, ?_⟩
  intro x hx0 hx1
  have b1 : LeBut p σ (upd σ p (.list [.int (c + 1), .ref f])) := (LeBut.refl p σ).upd
  have hp1 : upd σ p (.list [.int (c + 1), .ref f]) p = some (.list [.int (c + 1), .ref f]) := upd_same _ _ _
  have hf1 : upd σ p (.list [.int (c + 1), .ref f]) f = some (LI feet) := by rw [upd_ne hne]; exact hf
  generalize upd σ p (.list [.int (c + 1), .ref f]) = σ₁ at *
  repeat walk_at "m.e"
  refine WE_callG (k := 38) (con_walked C) (envOk_mk rfl) G (room.less (by decide)) (by decide) rfl ?_ rfl rfl rfl
  repeat walk_at "m.e"
  refine ⟨p, f, c + 1, 9, feet, rfl, by decide, by decide, by omega, by omega, hne, hp1, hf1, hlen, ?_⟩
  intro y hy0 hy1
  have e2 : c + 1 + 1 = c + 2 := by omega
  rw [e2]
  have b2 : LeBut p σ₁ (upd σ₁ p (.list [.int (c + 2), .ref f])) := (LeBut.refl p σ₁).upd
  have hp2 : upd σ₁ p (.list [.int (c + 2), .ref f]) p = some (.list [.int (c + 2), .ref f]) := upd_same _ _ _
  have hf2 : upd σ₁ p (.list [.int (c + 2), .ref f]) f = some (LI feet) := by rw [upd_ne hne]; exact hf1
  generalize upd σ₁ p (.list [.int (c + 2), .ref f]) = σ₂ at *
  repeat walk_at "m.e"
  refine ⟨x - 9, 1 + y, rfl, by omega, by omega, by omega, ?_⟩
  intro r σ₃ t b hle₃ hr lst
  have k1 := lst.top
  have k2 := lst.bot
  refine ret r σ₃ t b ((b1.trans b2).le hle₃) ⟨hne, hlen, hle₃ _ _ hp2, hle₃ _ _ hf2⟩ ?_ hr lst.pos (by omega) (by omega) lst.cop
  intro e
  rw [e, hle₃ _ _ hp2] at hr
  cases hr

/-- what is due of a form -/
def IsInv (p1 : Int) (q1 : Nat) (p : Int) (q : Nat) : Prop := 0 < q ∧ p * p1 = (q1 : Int) * (q : Int) ∧ Nat.gcd p.natAbs q = 1
def Due (form : Nat) (p1 : Int) (q1 : Nat) (p2 : Int) (q2 : Nat) : Option (Int × Nat) → Prop
  | none => (form = 3 ∧ p2 = 0) ∨ (form = 4 ∧ p1 = 0)
  | some (p, q) => match form with
    | 0 => IsSum p1 q1 p2 q2 p q
    | 1 => IsSum p1 q1 (-p2) q2 p q
    | 2 => IsProd p1 q1 p2 q2 p q
    | 3 => p2 ≠ 0 ∧ IsQuot p1 q1 p2 q2 p q
    | 4 => p1 ≠ 0 ∧ IsInv p1 q1 p q
    | _ => p = -p1 ∧ q = q1

/-- a pair of ints, or nothing -/
inductive VP (σ : ST) : V → Option (Int × Nat) → Prop
  | none : VP σ .none none
  | some {a : Addr} {p : Int} {q : Nat} (h : σ a = some (.tup [.int p, .int (q : Int)])) : VP σ (.ref a) (some (p, q))

def SDue : Spec := fun vs σ K => ∃ form : Nat, ∃ a b, ∃ p1 : Int, ∃ q1 : Nat, ∃ p2 : Int, ∃ q2 M : Nat, vs = [.int (form : Int), .ref a, .ref b] ∧ form < 6 ∧ σ a = some (.tup [.int p1, .int (q1 : Int)]) ∧ σ b = some (.tup [.int p2, .int (q2 : Int)]) ∧
  0 < q1 ∧ 0 < q2 ∧ p1.natAbs ≤ M ∧ q1 ≤ M ∧ p2.natAbs ≤ 9 ∧ q2 ≤ 9 ∧ M ≤ 2 ^ 20 ∧ Nat.gcd p1.natAbs q1 = 1 ∧
  ∀ v σ' r, Le σ σ' → VP σ' v r → Due form p1 q1 p2 q2 r → (∀ p q, r = some (p, q) → p.natAbs ≤ 18 * M ∧ q ≤ 18 * M) → K v σ'

theorem mul_le9 {a : Int} {b : Int} {M : Nat} (ha : a.natAbs ≤ M) (hb : b.natAbs ≤ 9) : (a * b).natAbs ≤ 9 * M := by
  rw [Int.natAbs_mul, Nat.mul_comm]
  exact Nat.mul_le_mul hb ha

set_option maxHeartbeats 4000000 in
theorem con_due (C : Cx) : Con C 3 (defAt 43) SDue := by
  refine Con.mk ["form", "one", "other"] rfl defOk43 (by decide) ?_
  rintro g L q a cd A vs σ Q G room ⟨form, la, lb, p1, q1, p2, q2, M, rfl, hform, h1, h2, g1, g2, m1, m2, m3, m4, hM, hcop, ret⟩
  refine ⟨rfl, ?_⟩
  have x1 := mul_le9 (a := p1) (b := (q2 : Int)) m1 (by omega)
  have x2 := mul_le9 (a := (q1 : Int)) (b := p2) (M := M) (by omega) m3
  have x3 := mul_le9 (a := (q1 : Int)) (b := (q2 : Int)) (M := M) (by omega) (by omega)
  have x4 := mul_le9 (a := p1) (b := p2) m1 m3
  have hq12 : (q1 : Int) * (q2 : Int) ≠ 0 := Int.mul_ne_zero (by omega) (by omega)
  have c12 : (q1 : Int) * p2 = p2 * q1 := Int.mul_comm _ _
  ((conv in (dBody _) => whnf); (conv in (dScope _) => whnf); (try dsimp only [List.zip_cons_cons, List.zip_nil_left]))
  walk_at "m.x"
  repeat walk_at "m.e"
  refine if_dec (fun h => ?_) (fun h => ?_)
  · walk_at "m.x"
    refine WE_is (.int (if form = 0 then 1 else -1)) ?_ ?_
    · (with_reducible refine' WE_IfExp ?_)
      repeat walk_at "m.e"
      refine if_dec (fun h => ?_) (fun h => ?_)
      · repeat walk_at "m.e"
        exact ⟨by rw [if_pos (by omega)], rfl, rfl⟩
      · repeat walk_at "m.e"
        exact ⟨by rw [if_neg (by omega)]; rfl, rfl, rfl⟩
    obtain ⟨s, hs⟩ : ∃ s : Int, s = (if form = 0 then 1 else -1) := ⟨_, rfl⟩
    rw [← hs]
    have hs1 : s.natAbs = 1 := by rw [hs]; split <;> rfl
    have x5 : (s * p2 * (q1 : Int)).natAbs ≤ 9 * M := by
      rw [Int.natAbs_mul, Int.natAbs_mul, hs1, Nat.one_mul, ← Int.natAbs_mul, ← c12]; exact x2
    walk_at "m.x"
    refine WE_callG (k := 39) (con_least C) (envOk_mk rfl) G (room.less (by decide)) (by decide) rfl ?_ rfl rfl rfl
    repeat walk_at "m.e"
    refine ⟨p1 * q2 + s * p2 * q1, (q1 : Int) * q2, rfl, hq12, by omega, by omega, ?_⟩
    intro r σ' p q hle hr lst
    refine ret (.ref r) σ' (some (p, q)) hle (.some hr) ?_ ?_
    · have e0 : form = 0 ∨ form = 1 := by omega
      rcases e0 with rfl | rfl
      · have hs : s = 1 := hs
        subst hs
        exact ⟨lst.pos, by rw [lst.eq, Int.one_mul], lst.cop⟩
      · have hs : s = -1 := hs
        subst hs
        exact ⟨lst.pos, by rw [lst.eq, Int.neg_mul, Int.one_mul], lst.cop⟩
    · rintro _ _ e
      cases e
      have := lst.top
      have := lst.bot
      omega
  repeat walk_at "m.x"
  repeat walk_at "m.e"
  refine if_dec (fun h2' => ?_) (fun h2' => ?_)
  · have : form = 2 := by omega
    subst this
    walk_at "m.x"
    refine WE_callG (k := 39) (con_least C) (envOk_mk rfl) G (room.less (by decide)) (by decide) rfl ?_ rfl rfl rfl
    repeat walk_at "m.e"
    refine ⟨p1 * p2, (q1 : Int) * q2, rfl, hq12, by omega, by omega, ?_⟩
    intro r σ' p q hle hr lst
    refine ret (.ref r) σ' (some (p, q)) hle (.some hr) ⟨lst.pos, lst.eq, lst.cop⟩ ?_
    rintro _ _ e
    cases e
    have := lst.top
    have := lst.bot
    omega
  repeat walk_at "m.x"
  repeat walk_at "m.e"
  refine if_dec (fun h3 => ?_) (fun h3 => ?_)
  · have : form = 3 := by omega
    subst this
    walk_at "m.x"
    (with_reducible refine' WE_IfExp ?_)
    repeat walk_at "m.e"
    refine if_dec (fun h4 => ?_) (fun h4 => ?_)
    · repeat walk_at "m.e"
      exact ret .none σ none (Le.refl _) .none (.inl ⟨rfl, h4⟩) (fun _ _ e => by cases e)
    · refine WE_callG (k := 39) (con_least C) (envOk_mk rfl) G (room.less (by decide)) (by decide) rfl ?_ rfl rfl rfl
      repeat walk_at "m.e"
      refine ⟨p1 * q2, (q1 : Int) * p2, rfl, Int.mul_ne_zero (by omega) h4, by omega, by omega, ?_⟩
      intro r σ' p q hle hr lst
      refine ret (.ref r) σ' (some (p, q)) hle (.some hr) ⟨h4, lst.pos, lst.eq, lst.cop⟩ ?_
      rintro _ _ e
      cases e
      have := lst.top
      have := lst.bot
      omega
  repeat walk_at "m.x"
  repeat walk_at "m.e"
  refine if_dec (fun h4 => ?_) (fun h4 => ?_)
  · have : form = 4 := by omega
    subst this
    walk_at "m.x"
    (with_reducible refine' WE_IfExp ?_)
    repeat walk_at "m.e"
    refine if_dec (fun h5 => ?_) (fun h5 => ?_)
    · repeat walk_at "m.e"
      exact ret .none σ none (Le.refl _) .none (.inr ⟨rfl, h5⟩) (fun _ _ e => by cases e)
    · refine WE_callG (k := 39) (con_least C) (envOk_mk rfl) G (room.less (by decide)) (by decide) rfl ?_ rfl rfl rfl
      repeat walk_at "m.e"
      refine ⟨(q1 : Int), p1, rfl, h5, by omega, by omega, ?_⟩
      intro r σ' p q hle hr lst
      refine ret (.ref r) σ' (some (p, q)) hle (.some hr) ⟨h5, lst.pos, lst.eq, lst.cop⟩ ?_
      rintro _ _ e
      cases e
      have := lst.top
      have := lst.bot
      omega
  have : form = 5 := by omega
  subst this
  repeat walk_at "m.x"
  repeat walk_at "m.e"
  intro r hr
  have e0 : (0 : Int) - p1 = -p1 := by omega
  rw [e0]
  refine ret (.ref r) _ (some (-p1, q1)) (Le.upd (Le.refl σ) hr) (.some (upd_same _ _ _)) ⟨rfl, rfl⟩ ?_
  rintro _ _ e
  cases e
  omega

theorem defOk44 : DefOk (defAt 44) := ⟨by decide, by decide, rfl, rfl, rfl, fun vals _ _ _ _ _ h => by
  obtain ⟨a, b, c, d, rfl⟩ := len4 h
  rfl⟩

/-- a try whose suite raises nothing -/
theorem X_TryPlain {C : Cx} {A : Around} {g : Heap} {L : Addr} {E : Value → Shared → Prop} {m : LM} {σ : ST} {env : Env} {body rest : List Stmt} {h₀ : ExceptHandler} {hs : List ExceptHandler} {pos : Pos} {Q : Flow → LM → ST → Prop}
    (h : ∀ E', X C A g L E' m σ body env (Then C A g L E rest env Q)) : X C A g L E m σ (.Try body (h₀ :: hs) [] [] pos :: rest) env Q :=
  X_step fun hh tk R => by
    refine wpAny_Try_except (go (h _ hh tk R) (fun f h₁ tk₁ m₁ σ₁ R₁ q => ?_) fun _ _ x => x)
    cases f with
    | next => exact wpAny_execs_nil ⟨h₁, tk₁, m₁, σ₁, rfl, R₁, q⟩
    | brk => exact ⟨h₁, tk₁, m₁, σ₁, rfl, R₁, q⟩
    | cont => exact ⟨h₁, tk₁, m₁, σ₁, rfl, R₁, q⟩
    | ret v => exact ⟨h₁, tk₁, m₁, σ₁, rfl, R₁, q⟩

def SDone : Spec := fun vs σ K => ∃ form : Nat, ∃ a b w, ∃ p1 : Int, ∃ q1 : Nat, ∃ p2 : Int, ∃ q2 : Nat, vs = [.int (form : Int), .ref a, .ref b, .int ((w : Nat) : Int)] ∧ 1 ≤ w ∧ w ≤ 30 ∧ form < 6 ∧ Good p1 q1 ∧ Good p2 q2 ∧
  ¬ (form = 3 ∧ p2 = 0) ∧ ¬ (form = 4 ∧ p1 = 0) ∧ FR σ w a p1 q1 ∧ FR σ w b p2 q2 ∧ RetF σ w K (fun p q => Due form p1 q1 p2 q2 (some (p, q)))
set_option maxHeartbeats 4000000 in
theorem con_done (C : Cx) : Con C 8 (defAt 44) SDone := by
  refine Con.mk ["form", "x", "y", "w"] rfl defOk44 (by decide) ?_
  rintro g L q a cd A vs σ Q G room ⟨form, la, lb, w, p1, q1, p2, q2, rfl, hw, hw2, hform, g1, g2, n3, n4, f1, f2, ret⟩
  refine ⟨rfl, ?_⟩
  have g1t := g1.top
  have g1b := g1.bot
  have g1p := g1.pos
  ((conv in (dBody _) => whnf); (conv in (dScope _) => whnf); (try dsimp only [List.zip_cons_cons, List.zip_nil_left]))
  refine X_TryPlain fun E' => ?_
  walk_at "m.x"
  repeat walk_at "m.e"
  refine if_dec (fun h => ?_) (fun h => ?_)
  · walk_at "m.x"
    refine WE_callI G ?_ rfl
    refine E_item (fun _ _ => rfl) ?_
    walk_at "m.e"
    walk_at "m.e"
    refine E_fn (k := 23) (envOk_mk rfl) G (by decide) rfl rfl (by decide) ?_
    walk_at "m.e"
    refine E_fn (k := 24) (envOk_mk rfl) G (by decide) rfl rfl (by decide) ?_
    walk_at "m.e"
    refine E_fn (k := 25) (envOk_mk rfl) G (by decide) rfl rfl (by decide) ?_
    walk_at "m.e"
    refine E_fn (k := 27) (envOk_mk rfl) G (by decide) rfl rfl (by decide) ?_
    walk_at "m.e"
    walk_at "m.e"
    intro lt hlt
    have le1 := Le.upd (o := .list [.ref (fa C 23), .ref (fa C 24), .ref (fa C 25), .ref (fa C 27)]) (Le.refl σ) hlt
    have hlt' := upd_same σ lt (.list [.ref (fa C 23), .ref (fa C 24), .ref (fa C 25), .ref (fa C 27)])
    generalize upd σ lt _ = σ₁ at *
    walk_at "m.e"
    have f1 := f1.le le1
    have f2 := f2.le le1
    have ret := ret.up le1
    have e0 : form = 0 ∨ form = 1 ∨ form = 2 ∨ form = 3 := by omega
    rcases e0 with rfl | rfl | rfl | rfl
    · refine itemK_any hlt' (by decide) (by decide) rfl ?_
      refine ⟨23, 6, _, rfl, con_radd C, room.less (by decide), by decide, ?_⟩
      repeat walk_at "m.e"
      refine E_fn (k := 30) (envOk_mk rfl) G (by decide) rfl rfl (by decide) ?_
      repeat walk_at "m.e"
      refine E_fn (k := 36) (envOk_mk rfl) G (by decide) rfl rfl (by decide) ?_
      repeat walk_at "m.e"
      exact ⟨la, lb, w, p1, q1, p2, q2, rfl, hw, hw2, g1, g2, f1, f2, fun r σ' p q h1 h2 h3 => ret r σ' p q h1 h2 h3⟩
    · refine itemK_any hlt' (by decide) (by decide) rfl ?_
      refine ⟨24, 7, _, rfl, con_rsub C, room.less (by decide), by decide, ?_⟩
      repeat walk_at "m.e"
      refine E_fn (k := 30) (envOk_mk rfl) G (by decide) rfl rfl (by decide) ?_
      repeat walk_at "m.e"
      refine E_fn (k := 36) (envOk_mk rfl) G (by decide) rfl rfl (by decide) ?_
      repeat walk_at "m.e"
      exact ⟨la, lb, w, p1, q1, p2, q2, rfl, hw, hw2, g1, g2, f1, f2, fun r σ' p q h1 h2 h3 => ret r σ' p q h1 h2 h3⟩
    · refine itemK_any hlt' (by decide) (by decide) rfl ?_
      refine ⟨25, 6, _, rfl, con_rmul C, room.less (by decide), by decide, ?_⟩
      repeat walk_at "m.e"
      refine E_fn (k := 30) (envOk_mk rfl) G (by decide) rfl rfl (by decide) ?_
      repeat walk_at "m.e"
      refine E_fn (k := 36) (envOk_mk rfl) G (by decide) rfl rfl (by decide) ?_
      repeat walk_at "m.e"
      exact ⟨la, lb, w, p1, q1, p2, q2, rfl, hw, hw2, g1, g2, f1, f2, fun r σ' p q h1 h2 h3 => ret r σ' p q h1 h2 h3⟩
    · have hp2 : p2 ≠ 0 := fun e => n3 ⟨rfl, e⟩
      refine itemK_any hlt' (by decide) (by decide) rfl ?_
      refine ⟨27, 7, _, rfl, con_rdiv C, room.less (by decide), by decide, ?_⟩
      repeat walk_at "m.e"
      refine E_fn (k := 30) (envOk_mk rfl) G (by decide) rfl rfl (by decide) ?_
      repeat walk_at "m.e"
      refine E_fn (k := 36) (envOk_mk rfl) G (by decide) rfl rfl (by decide) ?_
      repeat walk_at "m.e"
      exact ⟨la, lb, w, p1, q1, p2, q2, rfl, hw, hw2, g1, g2, hp2, f1, f2, fun r σ' p q h1 h2 h3 => ret r σ' p q h1 h2 ⟨hp2, h3⟩⟩
  · repeat walk_at "m.x"
    (with_reducible refine' WE_IfExp ?_)
    repeat walk_at "m.e"
    refine if_dec (fun h4 => ?_) (fun h4 => ?_)
    · have : form = 4 := by omega
      subst this
      have hp1 : p1 ≠ 0 := fun e => n4 ⟨rfl, e⟩
      refine WE_callG (k := 26) (con_rinv C) (envOk_mk rfl) G (room.less (by decide)) (by decide) rfl ?_ rfl rfl rfl
      repeat walk_at "m.e"
      refine ⟨la, w, p1, q1, rfl, hw, hp1, by omega, by omega, g1p, f1, ?_⟩
      rintro r σ' _ _ hle fr ⟨rfl, rfl⟩
      refine ret r σ' _ _ hle fr ⟨hp1, by omega, ?_, ?_⟩
      · split <;> grind
      · have : (if p1 < 0 then -(q1 : Int) else (q1 : Int)).natAbs = q1 := by split <;> omega
        rw [this, Nat.gcd_comm]; exact g1.cop
    · have : form = 5 := by omega
      subst this
      refine WE_callG (k := 22) (con_rneg C) (envOk_mk rfl) G (room.less (by decide)) (by decide) rfl ?_ rfl rfl rfl
      repeat walk_at "m.e"
      refine ⟨la, w, p1, q1, rfl, hw, by omega, f1, ?_⟩
      rintro r σ' _ _ hle fr ⟨rfl, rfl⟩
      exact ret r σ' _ _ hle fr ⟨rfl, rfl⟩



section
variable {C : Cx} {A : Around} {g : Heap} {L : Addr} {E : Value → Shared → Prop} {m : LM} {σ : ST} {env : Env}

theorem X_ForRangeN {ι : Type} {x : Str} {xp p rpos pos : Pos} {e : Expr} {args : List Expr} {body rest : List Stmt} {Q : Flow → LM → ST → Prop} (O : EnvOk env L) (G : Glob C g) (hh0 : A.handled = none)
    (lo step : Int) (loc : Nat → ι → LM) (P : Nat → Nat → ι → ST → Prop)
    (h : WS C A g L E m σ rpos (e :: args) env (fun us m₁ σ₁ => ∃ n, RangeIs us lo step n ∧ ∃ j₀, Sub (loc 0 j₀) m₁ ∧ P n 0 j₀ σ₁))
    (turn : ∀ n i j σ' g', i < n → P n i j σ' → Glob C g' →
      X C A g' L NoE ((x, .int (lo + i * step)) :: loc i j) σ' body env (TurnEnd (fun m₂ σ₂ => ∃ j', Sub (loc (i + 1) j') m₂ ∧ P n (i + 1) j' σ₂) Q))
    (done : ∀ n j σ', P n n j σ' → X C A g L E (loc n j) σ' rest env Q)
    (hx : env.kindOf x = some .local)
    (he : backTo rpos (starEach (e :: args) env) = (false, eval e env) :: backTo rpos (starEach args env)) (hp : (backTo rpos (starEach args env)).any (·.1) = false)
    (hk : env.kindOf "range" = some .globalImplicit)
    (ht : ∀ I v, letOwnedTupleGo (.Name x xp) (.ref I) v = pure ()) (hs : ∀ v, foldedSetIterable (.Call (.Name "range" p) (e :: args) [] rpos) env v = pure v) :
    X C A g L E m σ (.For (.Name x xp) (.Call (.Name "range" p) (e :: args) [] rpos) body [] pos :: rest) env Q :=
  X_ForRangeO O G hh0 lo step (fun _ => True) loc P (W_mono h fun _ _ _ q => q.elim fun n q => ⟨n, trivial, q⟩) (fun n i j σ' g' _ hi hP G' => turn n i j σ' g' hi hP G') (fun n j σ' _ hP => done n j σ' hP) hx he hp hk ht hs

/-! the feet, out of the script -/
theorem ints_mem {vs : List Value} {ns : List Int} (h : IntsAre vs ns) : ∀ v ∈ vs, ∃ i t, v = Value.int i t := by
  induction h with
  | nil => intro v hv; cases hv
  | cons i t _ ih => intro v hv; rcases List.mem_cons.mp hv with rfl | hv
                     · exact ⟨i, t, rfl⟩
                     · exact ih v hv

theorem er_ints {xs ys : List Value} (h : Paired (fun v y => ∃ i t u, v = Value.int i t ∧ y = Value.int (if i < 0 then -i else i) u) xs ys) : ∃ ns : List Int, ys.map er = ns.map V.int ∧ ns.length = xs.length := by
  induction h with
  | nil => exact ⟨[], rfl, rfl⟩
  | cons h _ ih =>
    obtain ⟨i, t, u, _, rfl⟩ := h
    obtain ⟨ns, h1, h2⟩ := ih
    exact ⟨(if i < 0 then -i else i) :: ns, by simp only [List.map_cons, h1]; rfl, by simp [h2]⟩

theorem Rel.allocAt {h h' : Heap} {a : Addr} {mo : MO} (R : Rel g L m σ h) (R' : Rel g L m σ h') (ha : h.get? a = none) (ho : HoldsO h' a mo) : Rel g L m (upd σ a mo) h' := by
  obtain ⟨mc, F, k⟩ := R.fr
  have hL : a ≠ L := fun q => by
    obtain ⟨o, es, ep, e, _⟩ := F.ns
    rw [q, e] at ha; cases ha
  have hg : g.get? a = none := by
    cases e : g.get? a with
    | none => rfl
    | some o => rw [F.keep _ _ e] at ha; cases ha
  refine ⟨R'.fr, fun b ob e => ?_⟩
  by_cases hb : b = a
  · subst hb
    rw [upd_same] at e; cases e
    exact ⟨ho, hL, hg⟩
  · rw [upd_ne hb] at e
    exact R'.own b ob e

theorem WE_feet {p1 p2 p3 p4 p5 p6 p7 p8 p9 px pos : Pos} {k : Nat} {scope : Scope} {sa : Addr} {vals : List Value} {ns : List Int} {Q : V → LM → ST → Prop} (O : EnvOk env L) (G : Glob C g) (hh0 : A.handled = none)
    (hm : m.lookup (Str.ofString "script") = some (V.ref sa)) (hsa : g.IsList sa vals.toArray) (hi : IntsAre vals ns) (hlen : vals.length ≤ 63)
    (hl : env.kindOf "script" = some .local)
    (hfree : ∀ y ∈ scope.names, y.2 ≠ .free) (hcell : ∀ y ∈ scope.names, y.2 ≠ .cell) (hkind : scope.kind = .function)
    (hnames : ∀ y ∈ scope.names, y.2 = .local → scope.names.lookup y.1 = some .local) (hx : scope.names.lookup (Str.ofString "foot") = some .local)
    (hka : ∀ D, (compEnv scope D env).kindOf "abs" = some .globalImplicit) (hki : ∀ D, (compEnv scope D env).kindOf "int" = some .globalImplicit) (hkf : ∀ D, (compEnv scope D env).kindOf "foot" = some .local)
    (q : ∀ n feet, σ n = none → feet.length ≤ 16 → Q (.ref n) m (upd σ n (LI feet))) :
    WE C A g L E m σ (eval (.ListComp (.Call (.Name "abs" p1) [.Call (.Name "int" p2) [.Name "foot" p3] [] p4] [] p5) [⟨.Name "foot" px, .Subscript (.Name "script" p6) (.Slice none (some (.Constant (.int 16) k p7)) none p8) p9, [], 0⟩] scope pos) env) Q := fun hh tk R => by
  obtain ⟨mc, F, kk⟩ := R.fr
  obtain ⟨cv, h1, h2⟩ := kk _ _ hm
  cases er_ref h2
  refine wpAny_ListComp_walk (fun _ => true) (fun v y => ∃ i t u, v = Value.int i t ∧ y = Value.int (if i < 0 then -i else i) u) hfree hcell hkind hnames hx ?_ (fun _ => rfl)
  refine wpAny_Subscript_list_slice (wpAny_Name (wpAny_loadName_local O.kind hl (m := mc) (by rw [O.loc]; exact F.ns) h1 ?_) (by decide)) (fun _ _ => rfl)
  rw [evalPart_none]
  refine wpAny_pure ?_
  show wpAny _ _ (eval (.Constant (.int 16) k p7) env) _ _ _
  refine wpAny_Constant_int ?_
  have hsl : hh.IsList sa vals.toArray := by
    obtain ⟨o, e1, e2, e3⟩ := hsa
    exact ⟨o, F.keep _ _ e1, e2, e3⟩
  refine ⟨sa, vals.toArray, none, some 16, rfl, hsl, sz1000 (by simp; omega), .none, .int 16 _, ?_⟩
  generalize hH1 : hh.push { cls := .type "slice", data := .fields #[.none, .int 16 tk, .none] } = H1
  generalize hit : slicePick vals.toArray none (some 16) none = items
  have hits : items.size ≤ 16 := by
    have := slicePick_plain vals.toArray none (some 16)
    rw [hit] at this
    rw [this]
    have e := clipAt_nat vals.toArray.size 16
    simp only [Option.elim, List.size_toArray, List.length_take, List.length_drop] at e ⊢
    rw [show ((16 : Nat) : Int) = 16 from rfl] at e
    rw [e]
    omega
  have hitm : ∀ v ∈ items, ∃ i t, v = Value.int i t := fun v hv => by
    have := slicePick_plain vals.toArray none (some 16)
    rw [hit] at this
    rw [this] at hv
    have hv' : v ∈ vals := List.mem_of_mem_take (by simpa using hv)
    exact ints_mem hi v hv'
  have k1 : ∀ b o, hh.get? b = some o → H1.get? b = some o := fun b o e => hH1 ▸ Heap.get?_push_of_some _ e
  generalize hH2 : H1.push { cls := .type "list", data := .seq items } = H2
  have hax : H2.get? H1.objs.size = some { cls := .type "list", data := .seq items } := by rw [← hH2]; exact Heap.get?_push_size _ rfl
  have hlx : H2.IsList H1.objs.size items := ⟨_, hax, rfl, _, rfl⟩
  have hlt : H1.objs.size < H2.objs.size := Heap.lt_size hax
  have k2 : ∀ b o, hh.get? b = some o → H2.get? b = some o := fun b o e => hH2 ▸ Heap.get?_push_of_some _ (k1 b o e)
  have hs1 : H1.objs.size = hh.objs.size + 1 := by rw [← hH1]; exact Heap.size_push ..
  change wpAny _ _ (pyIter (.ref (hh.objs.size + 1))) _ _ (shared C ((hh.push { cls := .type "slice", data := .fields #[.none, .int 16 tk, .none] }).push { cls := .type "list", data := .seq items }) (tk + 1))
  rw [hH1, hH2, ← hs1]
  refine wpAny_pyIter_list hlx ⟨H2.objs.size, [H2.objs.size, H1.objs.size], [H2.objs.size], items.size, _, _, rfl, Walks.list hh0 _ _ (Nat.ne_of_lt hlt) items, sz1000 (by omega), ⟨⟨_, Heap.get?_push_size _ rfl, rfl, rfl⟩, hlx.push _⟩, ?_, ⟨?_, ?_⟩, ?_⟩
  · intro b hb
    show b < (H2.push _).objs.size
    rw [Heap.size_push]
    rcases List.mem_cons.mp hb with rfl | hb
    · exact Nat.lt_succ_self _
    · rcases List.mem_cons.mp hb with rfl | hb
      · exact Nat.lt_succ_of_lt hlt
      · cases hb
  · intro D i v s₃ m₃ E' hP hn hmv hk ht
    exact wpAny_pure ⟨rfl, s₃.heap, s₃.toks, rfl, fun _ _ e => e⟩
  · intro D i v s₃ m₃ E' hP _ hn hmv hk ht
    obtain ⟨iv, t, rfl⟩ := hitm v (Array.mem_of_getElem? hP)
    have k3 : ∀ b o, hh.get? b = some o → s₃.heap.get? b = some o := fun b o e => hk b o (fun hm => by
      rcases List.mem_cons.mp hm with rfl | hm
      · exact Nat.lt_irrefl _ (Heap.lt_size (k2 _ _ e))
      · cases hm) (Heap.get?_push_of_some _ (k2 _ _ e))
    have hg : s₃.heap.Ns (compEnv scope D env).globals C.mg := by
      show s₃.heap.Ns env.globals C.mg
      rw [O.glob]; exact G.ng.keeps fun b o e => k3 b o (F.keep _ _ e)
    have hb : s₃.heap.Ns (compEnv scope D env).builtins C.mb := by
      show s₃.heap.Ns env.builtins C.mb
      rw [O.bui]; exact G.nb.keeps fun b o e => k3 b o (F.keep _ _ e)
    refine wpAny_Call_NameR (Calls.Name_function_global hkind (hka D) (Calls.loadGlobal_builtin hg (G.nomg "abs" (by decide)) hb ((G.bui "abs" (by decide)).trans (show bootBuiltins "abs" = some (.builtin "abs") by decide +kernel)) ?_) (by decide))
    rw [show backTo p5 (starEach [.Call (.Name "int" p2) [.Name "foot" p3] [] p4] (compEnv scope D env)) = [(false, eval (.Call (.Name "int" p2) [.Name "foot" p3] [] p4) (compEnv scope D env))] from rfl]
    refine Calls.callWith_builtin rfl (Calls.evalArgs_plain (Calls.spliced_cons ?_))
    refine wpAny_Call_NameR (Calls.Name_function_global hkind (hki D) (Calls.loadGlobal_builtin hg (G.nomg "int" (by decide)) hb ((G.bui "int" (by decide)).trans (show bootBuiltins "int" = some (.type "int") by decide +kernel)) ?_) (by decide))
    rw [show backTo p4 (starEach [.Name "foot" p3] (compEnv scope D env)) = [(false, eval (.Name "foot" p3) (compEnv scope D env))] from rfl]
    refine PySem.callWith_type rfl (Calls.evalArgs_plain (Calls.spliced_cons ?_))
    refine wpAny_Name (wpAny_loadName_local hkind (hkf D) hn hmv (Calls.spliced_nil (call_int_int (Calls.spliced_nil ?_)))) (by decide)
    refine call_abs_int fun u tk' => ⟨⟨iv, t, u, rfl, rfl⟩, s₃.heap, tk', rfl, fun _ _ e => e⟩
  · intro D h' tk' ys vs' hnew hlD hpl hlen' hP hF hk
    have k4 : ∀ b o, hh.get? b = some o → h'.get? b = some o := fun b o e => hk b o (fun hm => by
      rcases List.mem_cons.mp hm with rfl | hm
      · exact Nat.lt_irrefl _ (Heap.lt_size (k2 _ _ e))
      · cases hm) (Heap.get?_push_of_some _ (k2 _ _ e))
    have hD : hh.get? D = none := by
      cases e : hh.get? D with
      | none => rfl
      | some o =>
        have hz := Heap.get?_push_of_some { cls := .type "list_iterator", data := .fields #[.ref H1.objs.size, .int 0 0] } (k2 _ _ e)
        have hnew' : (H2.push { cls := .type "list_iterator", data := .fields #[.ref H1.objs.size, .int 0 0] }).get? D = none := hnew
        rw [hz] at hnew'; cases hnew'
    have hσ : σ D = none := by
      cases e : σ D with
      | none => rfl
      | some o => obtain ⟨ob, z⟩ := (R.own _ _ e).1.some; rw [hD] at z; cases z
    obtain ⟨feet, e1, e2⟩ := er_ints hF
    have hf16 : feet.length ≤ 16 := by
      rw [e2]
      have := List.length_filter_le (fun _ => true) vs'
      omega
    obtain ⟨n, hpl⟩ := hpl
    exact ⟨h', tk', m, upd σ D (LI feet), rfl, R.allocAt (R.grow k4) hD ⟨ys, n, hpl, e1⟩, q D feet hσ hf16⟩
end

/-! what is raised, and caught -/
def frs (l : List Env) : List Addr := l.filterMap (·.frame)
/-- the stack's frames: this one, and those in the base -/
def FrOk (g : Heap) (L : Addr) (l : List Env) : Prop := ∀ env ∈ l, env.scope.kind ≠ .module ∧ ∃ L', env.frame = some L' ∧ (L' = L ∨ ∃ o, g.get? L' = some o ∧ ∀ vs, o.data ≠ .fields vs)
theorem FrOk.mem {g : Heap} {L : Addr} {l : List Env} (h : FrOk g L l) {b : Addr} (hb : b ∈ frs l) : b = L ∨ ∃ o, g.get? b = some o ∧ ∀ vs, o.data ≠ .fields vs := by
  obtain ⟨env, he, hf⟩ := List.mem_filterMap.mp hb
  obtain ⟨_, L', hL', h'⟩ := h env he
  rw [hL'] at hf
  cases hf
  exact h'
theorem ns_slots {h h' : Heap} {a : Addr} {mc : Str → Option Value} (hn : h.Ns a mc) (k : ∀ o, h.get? a = some o → (∀ vs, o.data ≠ .fields vs) → ∃ sl, h'.get? a = some { o with slots := sl }) : h'.Ns a mc := by
  obtain ⟨o, es, ep, ho, hd, r⟩ := hn
  obtain ⟨sl, hs⟩ := k o ho fun vs q => by rw [hd] at q; cases q
  exact ⟨_, es, ep, hs, hd, r⟩

/-- an exception on its way, out of a frame's call -/
def Fl (C : Cx) (g : Heap) (L : Addr) (m : LM) (σ : ST) (l : List Env) (cls : Value) (e : Value) (s' : Shared) : Prop :=
  ∃ h' tk' ea a0 B, s' = shared C h' tk' ∧ e = .ref ea ∧ Heap.FlyingW B l ea cls a0 h' ∧ (∀ b o, g.get? b = some o → b ∉ frs l → B.get? b = some o) ∧
    (∀ b o, g.get? b = some o → (∀ vs, o.data ≠ .fields vs) → ∃ sl, h'.get? b = some { o with slots := sl }) ∧ (∃ mc, h'.Ns L mc ∧ ∀ x v, m.lookup x = some v → ∃ cv, mc x = some cv ∧ er cv = v) ∧ (∀ a o, σ a = some o → HoldsO B a o)

/-- a frame's world inside that of its callee -/
structure Into (g : Heap) (L : Addr) (m : LM) (σ : ST) (g' : Heap) (L' : Addr) (σ' : ST) : Prop where
  base : ∀ b o, g.get? b = some o → g'.get? b = some o
  own : ∃ mc hh, Heap.Ns hh L mc ∧ (∀ o, hh.get? L = some o → g'.get? L = some o) ∧ ∀ x v, m.lookup x = some v → ∃ cv, mc x = some cv ∧ er cv = v
  le : Le σ σ'
  low : g'.get? L' = none

section
variable {C : Cx} {A A' : Around} {g g' : Heap} {L L' : Addr} {E : Value → Shared → Prop} {m m' : LM} {σ σ' : ST} {l : List Env} {env' : Env} {cls : Value}

theorem Into.lift (I : Into g L m σ g' L' σ') {h' h'' : Heap} {B : Heap} (hslot : ∀ b o, g'.get? b = some o → (∀ vs, o.data ≠ .fields vs) → ∃ sl, h''.get? b = some { o with slots := sl })
    (hB : ∀ b o, g'.get? b = some o → b ∉ frs (env' :: l) → B.get? b = some o) (hf : env'.frame = some L') (hσ : ∀ a o, σ' a = some o → HoldsO B a o) :
    (∀ b o, g.get? b = some o → b ∉ frs l → B.get? b = some o) ∧
    (∀ b o, g.get? b = some o → (∀ vs, o.data ≠ .fields vs) → ∃ sl, h''.get? b = some { o with slots := sl }) ∧ (∃ mc, h''.Ns L mc ∧ ∀ x v, m.lookup x = some v → ∃ cv, mc x = some cv ∧ er cv = v) ∧ (∀ a o, σ a = some o → HoldsO B a o) := by
  refine ⟨fun b o e hb => hB b o (I.base _ _ e) fun q => ?_, fun b o e hn => hslot b o (I.base _ _ e) hn, ?_, fun a o e => hσ a o (I.le _ _ e)⟩
  · unfold frs at q
    rw [List.filterMap_cons, hf] at q
    rcases List.mem_cons.mp q with z | z
    · rw [z] at e
      have := I.base _ _ e
      rw [I.low] at this; cases this
    · exact hb z
  · obtain ⟨mc, hh, h1, h2, h3⟩ := I.own
    exact ⟨mc, ns_slots h1 fun o e hn => hslot _ o (h2 _ e) hn, h3⟩

/-- out of the frame that made it -/
theorem Fl_made (I : Into g L m σ g' L' σ') (hfr : A'.frames = some (env' :: l)) (hf : env'.frame = some L') (fo : FrOk g' L' (env' :: l)) {h₃ h₄ : Heap} {tk : Nat} {ea : Addr} {args : List Value} (R : Rel g' L' m' σ' h₃) (hx : Heap.MadeExcOf h₃ h₄ ea cls args) :
    wpAny (model C.prog C.w) A' (leaving env' (.ref ea)) (fun _ s'' => Fl C g L m σ l cls (.ref ea) s'') E (shared C h₄ tk) := by
  obtain ⟨mc, F, _⟩ := R.fr
  have st : (hideAll h₃ (frs (env' :: l))).StaysIn h₃ := fun b o q => of_hideAll _ q
  have ff : ∀ l', (∀ env ∈ l', env ∈ env' :: l) → h₃.FunFrames (hideAll h₃ (frs (env' :: l))) l' := by
    intro l'
    induction l' with
    | nil => intro _; trivial
    | cons env r ih =>
      intro hin
      obtain ⟨k1, L'', k2, k3⟩ := fo env (hin env (.head _))
      refine ⟨k1, ⟨L'', ?_⟩, ih fun e he => hin e (.tail _ he)⟩
      have hno : (hideAll h₃ (frs (env' :: l))).get? L'' = none := hideAll_none _ (List.mem_filterMap.mpr ⟨env, hin env (.head _), k2⟩)
      rcases k3 with rfl | ⟨o, ho, hn⟩
      · obtain ⟨o, es, ep, ho, hd, _⟩ := F.ns
        exact ⟨o, k2, hno, ho, fun vs q => by rw [hd] at q; cases q⟩
      · exact ⟨o, k2, hno, F.keep _ _ ho, hn⟩
  refine wpAny_leaves_madeW hfr hf st (ff _ fun _ h => h) hx fun h' t x1 x2 x3 x4 => ?_
  have hB : ∀ b o, g'.get? b = some o → b ∉ frs (env' :: l) → (hideAll h₃ (frs (env' :: l))).get? b = some o := fun b o e hb => hideAll_get _ (F.keep _ _ e) hb
  have hslot : ∀ b o, g'.get? b = some o → (∀ vs, o.data ≠ .fields vs) → ∃ sl, h'.get? b = some { o with slots := sl } := fun b o e hn => x4 b o (hx.keeps _ _ (F.keep _ _ e)) hn
  have hσ : ∀ a o, σ' a = some o → HoldsO (hideAll h₃ (frs (env' :: l))) a o := fun a o e => by
    obtain ⟨k1, k2, k3⟩ := R.own a o e
    refine k1.at fun ob q => hideAll_get _ q fun hm => ?_
    rcases fo.mem hm with z | ⟨o', z, _⟩
    · exact k2 z
    · rw [k3] at z; cases z
  obtain ⟨y1, y2, y3, y4⟩ := I.lift (l := l) (h' := h') hslot hB hf hσ
  exact ⟨h', tk, ea, _, _, rfl, rfl, x1, y1, y2, y3, y4⟩

/-- out of a frame that it meets on its way -/
theorem Fl_on (I : Into g L m σ g' L' σ') (hfr : A'.frames = some (env' :: l)) (hf : env'.frame = some L') {e : Value} {s' : Shared} (fl : Fl C g' L' m' σ' (env' :: l) cls e s') :
    wpAny (model C.prog C.w) A' (leaving env' e) (fun _ s'' => Fl C g L m σ l cls e s'') E s' := by
  obtain ⟨h', tk', ea, a0, B, rfl, rfl, f1, f2, f3, f4, f5⟩ := fl
  refine wpAny_leaves_onW hfr hf f1 fun h'' x1 x2 => ?_
  have hslot : ∀ b o, g'.get? b = some o → (∀ vs, o.data ≠ .fields vs) → ∃ sl, h''.get? b = some { o with slots := sl } := fun b o e hn => by
    obtain ⟨sl, q⟩ := f3 b o e hn
    obtain ⟨sl', q'⟩ := x2 b _ q hn
    exact ⟨sl', q'⟩
  obtain ⟨y1, y2, y3, y4⟩ := I.lift (l := l) (h' := h') hslot f2 hf f5
  exact ⟨h'', tk', ea, _, _, rfl, rfl, x1, y1, y2, y3, y4⟩

theorem W_monoE {E' : Value → Shared → Prop} {α : Type} {t : Sem α} {Q : α → LM → ST → Prop} (h : W C A g L E m σ t Q) (hE : ∀ e s, E e s → E' e s) : W C A g L E' m σ t Q :=
  fun hh tk R => wpAny_mono (h hh tk R) (fun _ _ x => x) hE

/-- a call of a def that raises -/
theorem W_callR {d : Stmt} {a : Addr} {vals : List Value} {n : Nat} (G : Glob C g) (hf : IsFn g a d) (D : DefOk d) (hnd : (dArgs d).Nodup) (room : Room A (n + 1))
    (hlen : vals.length = (dArgs d).length) (hfr : A.frames = some l) (fo : FrOk g L l)
    (h : ∀ (g' : Heap) (L' : Addr) (q : Str) (cd : Value) (A' : Around), Glob C g' → Room A' n → A'.frames = some (mkEnv (dScope d) L' q a cd :: l) → FrOk g' L' (mkEnv (dScope d) L' q a cd :: l) → Into g L m σ g' L' σ →
      X C A' g' L' (fun e s' => wpAny (model C.prog C.w) A' (leaving (mkEnv (dScope d) L' q a cd) e) (fun _ s'' => Fl C g L m σ l cls e s'') (fun _ _ => False) s') ((dArgs d).zip (vals.map er)) σ (dBody d) (mkEnv (dScope d) L' q a cd) (fun _ _ _ => False)) :
    W C A g L (Fl C g L m σ l cls) m σ (PySem.call (.ref a) vals []) (fun _ _ _ => False) := fun hh tk R => by
  obtain ⟨o, doc, pm, an, cd, ct, ho, hdata, hcd⟩ := hf
  obtain ⟨mc, F, kk⟩ := R.fr
  have keep : ∀ b ob, g.get? b = some ob → hh.get? b = some ob := F.keep
  have hroom : A.depth < recursionLimit := by have := room.depth; omega
  have hbinds : ∀ x ∈ (dArgs d).zip vals, (dScope d).names.lookup x.1 = some .local := fun x hx => D.loc x.1 (List.of_mem_zip hx).1
  refine wpAny_call (codeAny_call_def (s := shared C hh tk) (binds := (dArgs d).zip vals) hroom (keep _ _ ho) hdata (G.nolim.keeps keep) (hcd.keeps keep) rfl (BindsTo.of_eq (D.bind vals doc pm an cd ct hlen)) D.cell hbinds (fun h₀ hns hk => ?_) D.co D.gen D.kind)
  have gk : ∀ b ob, g.get? b = some ob → (hideST σ hh).get? b = some ob := fun b ob e => by
    rw [hideST_get]
    cases hs : σ b with
    | none => simpa using keep _ _ e
    | some x => rw [(R.own b x hs).2.2] at e; cases e
  have Lin : ∀ ob, hh.get? L = some ob → (hideST σ hh).get? L = some ob := fun ob e => by
    rw [hideST_get]
    cases hs : σ L with
    | none => simpa using e
    | some x => exact absurd rfl (R.own L x hs).2.1
  have low : (hideST σ hh).get? hh.objs.size = none := by
    cases e : (hideST σ hh).get? hh.objs.size with
    | none => rfl
    | some x => have := Heap.lt_size e; rw [hideST_size] at this; exact absurd this (Nat.lt_irrefl _)
  have R' : Rel (hideST σ hh) hh.objs.size ((dArgs d).zip (vals.map er)) σ h₀ := by
    refine ⟨⟨_, ⟨hns, fun b ob e => hk b ob ?_, low⟩, fun x v e => ?_⟩, fun b ob e => ⟨(R.own b ob e).1.at fun _ q => hk _ _ q, Nat.ne_of_lt (R.own b ob e).1.lt, ?_⟩⟩
    · rw [hideST_get] at e
      cases hs : σ b with
      | none => simp [hs] at e; exact e
      | some x => simp [hs] at e
    · obtain ⟨cv, h1, h2⟩ := zip_lookup _ _ _ _ e
      refine ⟨cv, lookup_reverse ?_ h1, h2⟩
      rw [List.map_fst_zip (by omega)]; exact hnd
    · rw [hideST_get, e]; rfl
  have G' : Glob C (hideST σ hh) := G.keeps gk
  have I : Into g L m σ (hideST σ hh) hh.objs.size σ := ⟨gk, ⟨mc, hh, F.ns, Lin, kk⟩, Le.refl _, low⟩
  have fo' : FrOk (hideST σ hh) hh.objs.size (mkEnv (dScope d) hh.objs.size (dName d ++ ".<locals>.") a cd :: l) := fun env he => by
    rcases List.mem_cons.mp he with rfl | he
    · exact ⟨by show (dScope d).kind ≠ _; rw [D.kind]; decide, _, rfl, .inl rfl⟩
    · obtain ⟨k1, L'', k2, k3⟩ := fo env he
      refine ⟨k1, L'', k2, .inr ?_⟩
      rcases k3 with rfl | ⟨o', z1, z2⟩
      · obtain ⟨oL, es, ep, hoL, hd, _⟩ := F.ns
        exact ⟨oL, Lin _ hoL, fun vs q => by rw [hd] at q; cases q⟩
      · exact ⟨o', gk _ _ z1, z2⟩
  have hX := h (hideST σ hh) hh.objs.size (dName d ++ ".<locals>.") cd (A.deeper (callEnv (fdOf d doc pm an cd ct) hh.objs.size a)) G' (room.deeper _) (Around.frames_deeper hfr) fo' I h₀ (tk + ((dArgs d).zip vals).length) R'
  exact wpAny_mono hX (fun f s₁ ⟨h₁, tk₁, m₁, σ₁, e₁, R₁, q⟩ => q.elim) (fun e s' q => wpAny_mono q (fun _ _ x => x) fun _ _ x => x.elim)
end

/-- the class that is raised -/
def excA (C : Cx) : Addr := match C.mg "DivisionByZero" with
  | some (.ref a) => a
  | _ => 0
theorem Glob.excOf {C : Cx} {g : Heap} (G : Glob C g) : ∃ bmB B nid iid, ExcBaseFacts B nid iid bmB ∧ OwnCls "DivisionByZero" (excA C) bmB nid C.mg g := by
  obtain ⟨Cl, bmB, B, nid, iid, F, O⟩ := G.exc
  have : excA C = Cl := by unfold excA; rw [O.bound]
  rw [this]; exact ⟨bmB, B, nid, iid, F, O⟩

section
variable {C : Cx} {A : Around} {g : Heap} {L : Addr} {E : Value → Shared → Prop} {m : LM} {σ : ST} {env : Env}
theorem X_Raise {x : Str} {k : Nat} {np kp cpos pos : Pos} {rest : List Stmt} {Q : Flow → LM → ST → Prop} (O : EnvOk env L) (G : Glob C g) (hh0 : A.handled = none)
    (hx : env.kindOf "DivisionByZero" = some .globalImplicit)
    (h : ∀ h₃ h₄ tk ea args, Rel g L m σ h₃ → Heap.MadeExcOf h₃ h₄ ea (.ref (excA C)) args → E (.ref ea) (shared C h₄ tk)) :
    X C A g L E m σ (.Raise (some (.Call (.Name "DivisionByZero" np) [.Constant (.str x) k kp] [] cpos)) none pos :: rest) env Q :=
  X_step fun hh tk R => by
    obtain ⟨bmB, B, nid, iid, Fx, Ow⟩ := G.excOf
    obtain ⟨mc, F, _⟩ := R.fr
    obtain ⟨bm, N, nm, q, bs, hdct, sn, sub, ab, col, dd, k0, k1, k2, k3, k5, mN, hC, hN, hni, T⟩ := (Ow.keeps F.keep).obj
    refine wpAny_Raise_call_subT Fx (T.hasType Fx.hasBase) hh0 rfl hni (C := excA C) (nm := nm) (q := q) (N := N) (bs := bs) (hdct := hdct) (sn := sn) (sub := sub) (ab := ab) (col := col) (dd := dd) (k0 := k0) (k1 := k1) (k2 := k2) (k3 := k3) (k5 := k5) ?_
    refine Calls.Name_function_global O.kind hx (Calls.loadGlobal_global (mg := C.mg) (by rw [O.glob]; exact G.ng.keeps F.keep) Ow.bound ⟨rfl, ?_⟩) (by decide)
    rw [show backTo cpos (starEach [.Constant (.str x) k kp] env) = [(false, eval (.Constant (.str x) k kp) env)] from rfl]
    refine Calls.evalArgs_plain (Calls.spliced_cons (wpAny_Constant_str (Calls.spliced_nil ?_)))
    refine ⟨rfl, by show 1 ≤ sizeLine; decide, hC, hN, T, fun h' e hm => ?_⟩
    exact h hh h' (tk + 1) e _ R hm
end

section
variable {C : Cx} {A : Around} {g : Heap} {L : Addr} {E : Value → Shared → Prop} {m : LM} {σ : ST} {env : Env} {l : List Env}

theorem Fl.mono {m' : LM} {σ' : ST} {cls : Value} {e : Value} {s' : Shared} (h : Fl C g L m' σ' l cls e s') (hs : Sub m m') (hle : Le σ σ') : Fl C g L m σ l cls e s' := by
  obtain ⟨h', tk', ea, a0, B, rfl, rfl, f1, f2, f3, ⟨mc, f4, f4'⟩, f5⟩ := h
  exact ⟨h', tk', ea, a0, B, rfl, rfl, f1, f2, f3, ⟨mc, f4, fun x v q => f4' x v (hs x v q)⟩, fun a o q => f5 a o (hle _ _ q)⟩

theorem X_RetF {e : Expr} {pos : Pos} {rest : List Stmt} {Q : Flow → LM → ST → Prop} (h : WE C A g L E m σ (eval e env) (fun _ _ _ => False)) : X C A g L E m σ (.Return (some e) pos :: rest) env Q := X_Return (W_mono h fun _ _ _ x => x.elim)

/-- calls, whatever the callee does -/
theorem WE_callGW {k : Nat} {p pos : Pos} {fn : Str} {e : Expr} {args : List Expr} {Q : V → LM → ST → Prop} (O : EnvOk env L) (G : Glob C g)
    (hk : k ∈ known) (hn : dName (defAt k) = fn)
    (h : WS C A g L E m σ pos (e :: args) env (fun us m₁ σ₁ => ∀ vals, vals.map er = us → W C A g L E m₁ σ₁ (PySem.call (.ref (fa C k)) vals []) (fun v => Q (er v))))
    (he : backTo pos (starEach (e :: args) env) = (false, eval e env) :: backTo pos (starEach args env))
    (hg : env.kindOf fn = some .globalImplicit) (hd : (fn == ("__debug__" : Str)) = false) :
    WE C A g L E m σ (eval (.Call (.Name fn p) (e :: args) [] pos) env) Q := fun hh tk R => by
  have hf := (G.fn hk).2
  obtain ⟨o, doc, pm, an, cd, ct, ho, hdata, hcd⟩ := id hf
  refine wpAny_Call_NameR (go (W_global (C := C) (A := A) (E := E) (v := .ref (fa C k)) (Q := fun v m' σ' => v = .ref (fa C k) ∧ m' = m ∧ σ' = σ) O G (by rw [← hn]; exact (G.fn hk).1) ⟨rfl, rfl, rfl⟩ hg hd hh tk R) (fun v h₁ tk₁ m₁ σ₁ R₁ ⟨ev, em, es⟩ => ?_) fun _ _ x => x)
  subst ev em es
  refine Calls.callWith_function (o := o) (fd := fdOf (defAt k) doc pm an cd ct) ?_
  have h' : W C A g L E m₁ σ₁ (spliced ((false, eval e env) :: backTo pos (starEach args env))) (fun vs m₂ σ₂ => ∀ vals, vals.map er = vs.map er → W C A g L E m₂ σ₂ (PySem.call (.ref (fa C k)) vals []) (fun v => Q (er v))) := by
    rw [← he]; exact h
  rw [he]
  refine Calls.evalArgs_plain (go (h' h₁ tk₁ R₁) (fun vs h₂ tk₂ m₂ σ₂ R₂ q => ?_) fun _ _ x => x)
  obtain ⟨mc, F, _⟩ := R₂.fr
  exact ⟨⟨F.keep _ _ ho, hdata⟩, q vs rfl h₂ tk₂ R₂⟩
theorem WE_callIW {v i : Expr} {p pos : Pos} {e : Expr} {args : List Expr} {Q : V → LM → ST → Prop} (G : Glob C g)
    (h : WE C A g L E m σ (eval (.Subscript v i p) env) (fun f m₁ σ₁ => ∃ k, f = .ref (fa C k) ∧ k ∈ known ∧
      WS C A g L E m₁ σ₁ pos (e :: args) env (fun us m₂ σ₂ => ∀ vals, vals.map er = us → W C A g L E m₂ σ₂ (PySem.call (.ref (fa C k)) vals []) (fun v => Q (er v)))))
    (he : backTo pos (starEach (e :: args) env) = (false, eval e env) :: backTo pos (starEach args env)) :
    WE C A g L E m σ (eval (.Call (.Subscript v i p) (e :: args) [] pos) env) Q := fun hh tk R => by
  show wpAny _ _ (do callWith pos (← eval (.Subscript v i p) env) [] (backTo pos (starEach (e :: args) env)) (backToKw pos (keywordEach [] env))) _ _ _
  refine wpAny_bind (go (h hh tk R) (fun f h₁ tk₁ m₁ σ₁ R₁ ⟨k, ef, hk, hs⟩ => ?_) fun _ _ x => x)
  cases er_ref ef
  have hf := (G.fn hk).2
  obtain ⟨o, doc, pm, an, cd, ct, ho, hdata, hcd⟩ := id hf
  refine Calls.callWith_function (o := o) (fd := fdOf (defAt k) doc pm an cd ct) ?_
  have h' : W C A g L E m₁ σ₁ (spliced ((false, eval e env) :: backTo pos (starEach args env))) (fun vs m₂ σ₂ => ∀ vals, vals.map er = vs.map er → W C A g L E m₂ σ₂ (PySem.call (.ref (fa C k)) vals []) (fun v => Q (er v))) := by
    rw [← he]; exact hs
  rw [he]
  refine Calls.evalArgs_plain (go (h' h₁ tk₁ R₁) (fun vs h₂ tk₂ m₂ σ₂ R₂ q => ?_) fun _ _ x => x)
  obtain ⟨mc, F, _⟩ := R₂.fr
  exact ⟨⟨F.keep _ _ ho, hdata⟩, q vs rfl h₂ tk₂ R₂⟩

set_option maxHeartbeats 2000000 in
theorem inv_body {q : Str} {a : Addr} {cd : Value} {la : Addr} {w qq : Nat} (G : Glob C g) (room : Room A 1) (hw : 1 ≤ w) (hf : FR σ w la 0 qq)
    (hE : ∀ h₃ h₄ tk ea args m', Rel g L m' σ h₃ → Heap.MadeExcOf h₃ h₄ ea (.ref (excA C)) args → E (.ref ea) (shared C h₄ tk)) :
    X C A g L E ((["x"] : List Str).zip [.ref la]) σ (dBody (defAt 26)) (mkEnv (dScope (defAt 26)) L q a cd) (fun _ _ _ => False) := by
  obtain ⟨t1, l1, a1, ⟨n1, b1, b1'⟩, c1⟩ := hf
  have z : limbs w (0 : Int).natAbs = [] := limbs_zero w
  rw [z] at b1'
  ((conv in (dBody _) => whnf); (conv in (dScope _) => whnf); (try dsimp only [List.zip_cons_cons, List.zip_nil_left]))
  walk_at "m.x"
  repeat walk_at "m.e"
  refine if_dec (fun h => ?_) (fun h => ?_)
  · refine X_Raise (envOk_mk rfl) G room.handled rfl ?_
    intro h₃ h₄ tk ea args R hx
    exact hE h₃ h₄ tk ea args _ R hx
  · exact absurd rfl h

theorem inv_raises {vals : List Value} {la : Addr} {w qq : Nat} (G : Glob C g) (room : Room A 2) (hfr : A.frames = some l) (fo : FrOk g L l) (hs : vals.map er = [.ref la]) (hw : 1 ≤ w) (hf : FR σ w la 0 qq) :
    W C A g L (Fl C g L m σ l (.ref (excA C))) m σ (PySem.call (.ref (fa C 26)) vals []) (fun _ _ _ => False) := by
  have ha : dArgs (defAt 26) = (["x"] : List Str) := rfl
  refine W_callR G (G.fn (by decide)).2 defOk26 (by rw [ha]; decide) room ?_ hfr fo ?_
  · have := congrArg List.length hs
    rw [ha]; simpa using this
  · intro g' L' q cd A' G' room' hfr' fo' I
    rw [ha, hs]
    exact inv_body G' room' hw hf fun h₃ h₄ tk ea args m' R hx => Fl_made I hfr' rfl fo' R hx

set_option maxHeartbeats 2000000 in
theorem div_body {q : Str} {a : Addr} {cd : Value} {vx vw vm vd : V} {la : Addr} {w qq : Nat} (G : Glob C g) (room : Room A 6) (hfr : A.frames = some (mkEnv (dScope (defAt 27)) L q a cd :: l)) (fo : FrOk g L (mkEnv (dScope (defAt 27)) L q a cd :: l)) (hw : 1 ≤ w) (hf : FR σ w la 0 qq)
    (hE : ∀ e s', Fl C g L ((["x", "y", "w", "mul", "divrem"] : List Str).zip [vx, .ref la, vw, vm, vd]) σ (mkEnv (dScope (defAt 27)) L q a cd :: l) (.ref (excA C)) e s' → E e s') :
    X C A g L E ((["x", "y", "w", "mul", "divrem"] : List Str).zip [vx, .ref la, vw, vm, vd]) σ (dBody (defAt 27)) (mkEnv (dScope (defAt 27)) L q a cd) (fun _ _ _ => False) := by
  generalize hm : (["x", "y", "w", "mul", "divrem"] : List Str).zip [vx, .ref la, vw, vm, vd] = mm at hE ⊢
  rw [← hm]
  have raise : ∀ vals : List Value, vals.map er = [.ref la] → ∀ Q : Value → LM → ST → Prop, W C A g L E mm σ (PySem.call (.ref (fa C 26)) vals []) Q := fun vals hs Q =>
    W_mono (W_monoE (inv_raises G (room.less (by decide)) hfr fo hs hw hf) hE) fun _ _ _ x => x.elim
  rw [← hm] at raise
  clear hE hm hfr fo
  ((conv in (dBody _) => whnf); (conv in (dScope _) => whnf); (try dsimp only [List.zip_cons_cons, List.zip_nil_left]))
  refine X_RetF ?_
  refine WE_callG (k := 25) (con_rmul C) (envOk_mk rfl) G (room.less (by decide)) (by decide) rfl ?_ rfl rfl rfl
  walk_at "m.e"
  walk_at "m.e"
  walk_at "m.e"
  refine WE_callGW (k := 26) (envOk_mk rfl) G (by decide) rfl ?_ rfl rfl rfl
  repeat walk_at "m.e"
  intro vals hs
  exact raise vals hs _

theorem div_raises {vals : List Value} {vx vw vm vd : V} {la : Addr} {w qq : Nat} (G : Glob C g) (room : Room A 7) (hfr : A.frames = some l) (fo : FrOk g L l) (hs : vals.map er = [vx, .ref la, vw, vm, vd]) (hw : 1 ≤ w) (hf : FR σ w la 0 qq) :
    W C A g L (Fl C g L m σ l (.ref (excA C))) m σ (PySem.call (.ref (fa C 27)) vals []) (fun _ _ _ => False) := by
  have ha : dArgs (defAt 27) = (["x", "y", "w", "mul", "divrem"] : List Str) := rfl
  refine W_callR G (G.fn (by decide)).2 defOk27 (by rw [ha]; decide) room ?_ hfr fo ?_
  · have := congrArg List.length hs
    rw [ha]; simpa using this
  · intro g' L' q cd A' G' room' hfr' fo' I
    rw [ha, hs]
    exact div_body G' room' hfr' fo' hw hf fun e s' fl => Fl_on I hfr' rfl fl

/-- a call of a def that catches -/
theorem W_callC {d : Stmt} {a : Addr} {vals : List Value} {n : Nat} {tb : List Stmt} {np kp rp hp pos : Pos} {k : Nat} (G : Glob C g) (hf : IsFn g a d) (D : DefOk d) (hnd : (dArgs d).Nodup) (room : Room A (n + 1))
    (hlen : vals.length = (dArgs d).length) (hfr : A.frames = some l) (fo : FrOk g L l) (hl : ∀ b ∈ frs l, b = L)
    (hb : dBody d = [.Try tb [.ExceptHandler (some (.Name "DivisionByZero" np)) none [.Return (some (.Constant .none k kp)) rp] hp] [] [] pos])
    (hx : ∀ L' q cd, (mkEnv (dScope d) L' q a cd).kindOf "DivisionByZero" = some .globalImplicit)
    (h : ∀ (g' : Heap) (L' : Addr) (q : Str) (cd : Value) (A' : Around), Glob C g' → Room A' n → A'.frames = some (mkEnv (dScope d) L' q a cd :: l) → FrOk g' L' (mkEnv (dScope d) L' q a cd :: l) →
      X C A' g' L' (Fl C g' L' ((dArgs d).zip (vals.map er)) σ (mkEnv (dScope d) L' q a cd :: l) (.ref (excA C))) ((dArgs d).zip (vals.map er)) σ tb (mkEnv (dScope d) L' q a cd) (fun _ _ _ => False)) :
    W C A g L E m σ (PySem.call (.ref a) vals []) (fun v m' σ' => m' = m ∧ σ' = σ ∧ er v = .none) := fun hh tk R => by
  obtain ⟨o, doc, pm, an, cd, ct, ho, hdata, hcd⟩ := hf
  obtain ⟨mc, F, kk⟩ := R.fr
  have keep : ∀ b ob, g.get? b = some ob → hh.get? b = some ob := F.keep
  have hroom : A.depth < recursionLimit := by have := room.depth; omega
  have hbinds : ∀ x ∈ (dArgs d).zip vals, (dScope d).names.lookup x.1 = some .local := fun x hx => D.loc x.1 (List.of_mem_zip hx).1
  refine wpAny_call (codeAny_call_def (s := shared C hh tk) (binds := (dArgs d).zip vals) hroom (keep _ _ ho) hdata (G.nolim.keeps keep) (hcd.keeps keep) rfl (BindsTo.of_eq (D.bind vals doc pm an cd ct hlen)) D.cell hbinds (fun h₀ hns hk => ?_) D.co D.gen D.kind)
  have gk : ∀ b ob, g.get? b = some ob → (hideST σ hh).get? b = some ob := fun b ob e => by
    rw [hideST_get]
    cases hs : σ b with
    | none => simpa using keep _ _ e
    | some x => rw [(R.own b x hs).2.2] at e; cases e
  have Lin : ∀ ob, hh.get? L = some ob → (hideST σ hh).get? L = some ob := fun ob e => by
    rw [hideST_get]
    cases hs : σ L with
    | none => simpa using e
    | some x => exact absurd rfl (R.own L x hs).2.1
  have low : (hideST σ hh).get? hh.objs.size = none := by
    cases e : (hideST σ hh).get? hh.objs.size with
    | none => rfl
    | some x => have := Heap.lt_size e; rw [hideST_size] at this; exact absurd this (Nat.lt_irrefl _)
  have R' : Rel (hideST σ hh) hh.objs.size ((dArgs d).zip (vals.map er)) σ h₀ := by
    refine ⟨⟨_, ⟨hns, fun b ob e => hk b ob ?_, low⟩, fun x v e => ?_⟩, fun b ob e => ⟨(R.own b ob e).1.at fun _ q => hk _ _ q, Nat.ne_of_lt (R.own b ob e).1.lt, ?_⟩⟩
    · rw [hideST_get] at e
      cases hs : σ b with
      | none => simp [hs] at e; exact e
      | some x => simp [hs] at e
    · obtain ⟨cv, h1, h2⟩ := zip_lookup _ _ _ _ e
      refine ⟨cv, lookup_reverse ?_ h1, h2⟩
      rw [List.map_fst_zip (by omega)]; exact hnd
    · rw [hideST_get, e]; rfl
  have G' : Glob C (hideST σ hh) := G.keeps gk
  obtain ⟨oL, es, ep, hoL, hdL, _⟩ := id F.ns
  have fo' : FrOk (hideST σ hh) hh.objs.size (mkEnv (dScope d) hh.objs.size (dName d ++ ".<locals>.") a cd :: l) := fun env he => by
    rcases List.mem_cons.mp he with rfl | he
    · exact ⟨by show (dScope d).kind ≠ _; rw [D.kind]; decide, _, rfl, .inl rfl⟩
    · obtain ⟨k1, L'', k2, k3⟩ := fo env he
      refine ⟨k1, L'', k2, .inr ?_⟩
      rcases k3 with rfl | ⟨o', z1, z2⟩
      · exact ⟨oL, Lin _ hoL, fun vs q => by rw [hdL] at q; cases q⟩
      · exact ⟨o', gk _ _ z1, z2⟩
  have hfr' : (A.deeper (callEnv (fdOf d doc pm an cd ct) hh.objs.size a)).frames = some (mkEnv (dScope d) hh.objs.size (dName d ++ ".<locals>.") a cd :: l) := Around.frames_deeper hfr
  have hX := h (hideST σ hh) hh.objs.size (dName d ++ ".<locals>.") cd (A.deeper (callEnv (fdOf d doc pm an cd ct) hh.objs.size a)) G' (room.deeper _) hfr' fo' h₀ (tk + ((dArgs d).zip vals).length) R'
  obtain ⟨bmB, B', nid, iid, Fx, Ow⟩ := G'.excOf
  show wpAny _ _ (execs (dBody d) _) _ _ _
  rw [hb]
  generalize hide : hideST σ hh = g' at *
  refine wpAny_execs_cons (wpAny_Try_except (wpAny_mono hX (fun f s₁ ⟨h₁, tk₁, m₁, σ₁, e₁, R₁, q⟩ => q.elim) (fun e s' fl => ?_)))
  obtain ⟨h', tk', ea, a0, B, rfl, rfl, f1, f2, f3, f4, f5⟩ := fl
  refine wpAny_looks_onW hfr' rfl f1 fun h₄ held₄ sm₄ => ?_
  refine wpAny_landsW held₄ fun h₅ fl₅ sm₅ => ?_
  have f3₅ : ∀ b o, g'.get? b = some o → (∀ vs, o.data ≠ .fields vs) → ∃ sl, h₅.get? b = some { o with slots := sl } := fun b o e hn => by
    obtain ⟨sl, q⟩ := f3 b o e hn
    obtain ⟨sl', q'⟩ := (sm₄.trans sm₅) b _ q hn
    exact ⟨sl', q'⟩
  obtain ⟨bm, N, nm, q, bs, hdct, sn, sub, ab, col, dd, k0, k1, k2, k3, k5, mN, hC, hN, hni, T⟩ := Ow.obj
  have notFr : ∀ b o, g'.get? b = some o → (∀ es ep, o.data ≠ .dict es ep) → b ∉ frs (mkEnv (dScope d) hh.objs.size (dName d ++ ".<locals>.") a cd :: l) := fun b o e hn hm => by
    unfold frs at hm
    rw [List.filterMap_cons] at hm
    rcases List.mem_cons.mp hm with z | z
    · rw [z, low] at e; cases e
    · rw [hl b z, Lin _ hoL] at e
      cases e
      exact hn _ _ hdL
  have hC₅ : h₅.get? (excA C) = _ := fl₅.1 _ _ (f2 _ _ hC (notFr _ _ hC fun es ep q => by cases q))
  obtain ⟨ob, hob, hobc⟩ := fl₅.there
  refine wpAny_handleBy_cons (codeAny_handlers_test (Calls.Name_function_global D.kind (hx _ _ _) (Calls.loadGlobal_global (mg := C.mg) (ns_slots G'.ng fun o e hn => f3₅ _ _ e hn) Ow.bound ?_) (by decide))) (by intro q; cases q)
  refine wpAny_excMatches_sub_self hC₅ hob hobc (T.hasType Fx.hasBase) (codeAny_handlers_suite ?_)
  refine lands_againW fl₅ fun h₆ fl₆ sm₆ => ?_
  refine wpAny_execs_cons (wpAny_Return_some (wpAny_Constant_none ?_))
  have Rb : Rel g L m σ h₆ := by
    refine ⟨⟨mc, ⟨ns_slots F.ns fun o e hn => ?_, fun b ob e => ?_, F.low⟩, kk⟩, fun b ob e => ⟨(f5 b ob e).at fun _ q => fl₆.1 _ _ q, (R.own b ob e).2⟩⟩
    · obtain ⟨sl, q⟩ := f3₅ L o (Lin _ e) hn
      obtain ⟨sl', q'⟩ := sm₆ L _ q hn
      exact ⟨sl', q'⟩
    · refine fl₆.1 _ _ (f2 _ _ (gk _ _ e) fun hm => ?_)
      unfold frs at hm
      rw [List.filterMap_cons] at hm
      rcases List.mem_cons.mp hm with z | z
      · have := gk _ _ e; rw [z, low] at this; cases this
      · rw [hl b z, F.low] at e; cases e
  exact ⟨h₆, tk', m, σ, rfl, Rb, rfl, rfl, rfl⟩

set_option maxHeartbeats 4000000 in
theorem done_none {vals : List Value} {form : Nat} {la lb : Addr} {w : Nat} {p1 p2 : Int} {q1 q2 : Nat} (G : Glob C g) (room : Room A 8) (hfr : A.frames = some l) (fo : FrOk g L l) (hl : ∀ b ∈ frs l, b = L)
    (hs : vals.map er = [.int (form : Int), .ref la, .ref lb, .int (w : Int)]) (hw : 1 ≤ w) (f1 : FR σ w la p1 q1) (f2 : FR σ w lb p2 q2) (hc : (form = 3 ∧ p2 = 0) ∨ (form = 4 ∧ p1 = 0)) :
    W C A g L E m σ (PySem.call (.ref (fa C 44)) vals []) (fun v m' σ' => m' = m ∧ σ' = σ ∧ er v = .none) := by
  have ha : dArgs (defAt 44) = (["form", "x", "y", "w"] : List Str) := rfl
  refine W_callC G (G.fn (by decide)).2 defOk44 (by rw [ha]; decide) room ?_ hfr fo hl rfl (fun _ _ _ => rfl) ?_
  · have := congrArg List.length hs
    rw [ha]; simpa using this
  · intro g' L' q cd A' G' room' hfr' fo'
    rw [ha, hs]
    generalize hm : (["form", "x", "y", "w"] : List Str).zip [V.int (form : Int), .ref la, .ref lb, .int (w : Int)] = mm
    generalize hE : Fl C g' L' mm σ (mkEnv (dScope (defAt 44)) L' q (fa C 44) cd :: l) (.ref (excA C)) = E'
    rcases hc with ⟨rfl, rfl⟩ | ⟨rfl, rfl⟩
    · have raise : ∀ (σ₁ : ST) (vals : List Value) (vx vw vm vd : V), Le σ σ₁ → vals.map er = [vx, .ref lb, vw, vm, vd] → ∀ Q : Value → LM → ST → Prop, W C A' g' L' E' mm σ₁ (PySem.call (.ref (fa C 27)) vals []) Q := fun σ₁ vals vx vw vm vd hle hs Q =>
        W_mono (W_monoE (div_raises G' room' hfr' fo' hs hw (f2.le hle)) fun e s' fl => by rw [← hE]; exact fl.mono (Sub.refl _) hle) fun _ _ _ x => x.elim
      clear hE hfr' fo'
      rw [← hm] at raise ⊢
      clear hm
      conv in (dScope _) => whnf
      dsimp only [List.zip_cons_cons, List.zip_nil_left] at raise ⊢
      walk_at "m.x"
      repeat walk_at "m.e"
      refine if_dec (fun h => ?_) (fun h => absurd (by decide) h)
      refine X_RetF ?_
      refine WE_callIW G' ?_ rfl
      refine E_item (fun _ _ => rfl) ?_
      walk_at "m.e"
      walk_at "m.e"
      refine E_fn (k := 23) (envOk_mk rfl) G' (by decide) rfl rfl (by decide) ?_
      walk_at "m.e"
      refine E_fn (k := 24) (envOk_mk rfl) G' (by decide) rfl rfl (by decide) ?_
      walk_at "m.e"
      refine E_fn (k := 25) (envOk_mk rfl) G' (by decide) rfl rfl (by decide) ?_
      walk_at "m.e"
      refine E_fn (k := 27) (envOk_mk rfl) G' (by decide) rfl rfl (by decide) ?_
      walk_at "m.e"
      walk_at "m.e"
      intro lt hlt
      have le1 := Le.upd (o := .list [.ref (fa C 23), .ref (fa C 24), .ref (fa C 25), .ref (fa C 27)]) (Le.refl σ) hlt
      have hlt' := upd_same σ lt (.list [.ref (fa C 23), .ref (fa C 24), .ref (fa C 25), .ref (fa C 27)])
      generalize upd σ lt _ = σ₁ at *
      walk_at "m.e"
      refine itemK_any hlt' (by decide) (by decide) rfl ?_
      refine ⟨27, rfl, by decide, ?_⟩
      repeat walk_at "m.e"
      refine E_fn (k := 30) (envOk_mk rfl) G' (by decide) rfl rfl (by decide) ?_
      repeat walk_at "m.e"
      refine E_fn (k := 36) (envOk_mk rfl) G' (by decide) rfl rfl (by decide) ?_
      repeat walk_at "m.e"
      intro vals hs
      exact raise _ vals _ _ _ _ le1 hs _
    · have raise : ∀ (vals : List Value), vals.map er = [.ref la] → ∀ Q : Value → LM → ST → Prop, W C A' g' L' E' mm σ (PySem.call (.ref (fa C 26)) vals []) Q := fun vals hs Q =>
        W_mono (W_monoE (inv_raises G' (room'.less (by decide)) hfr' fo' hs hw f1) fun e s' fl => by rw [← hE]; exact fl) fun _ _ _ x => x.elim
      clear hE hfr' fo'
      rw [← hm] at raise ⊢
      clear hm
      conv in (dScope _) => whnf
      dsimp only [List.zip_cons_cons, List.zip_nil_left] at raise ⊢
      walk_at "m.x"
      repeat walk_at "m.e"
      refine if_dec (fun h => absurd h (by decide)) (fun h => ?_)
      repeat walk_at "m.x"
      refine X_RetF ?_
      (with_reducible refine' WE_IfExp ?_)
      repeat walk_at "m.e"
      refine if_dec (fun h => ?_) (fun h => absurd rfl h)
      refine WE_callGW (k := 26) (envOk_mk rfl) G' (by decide) rfl ?_ rfl rfl rfl
      repeat walk_at "m.e"
      intro vals hs
      exact raise vals hs _
end

/-! the law's own sums -/
theorem due_unique {form : Nat} {p1 p2 : Int} {q1 q2 : Nat} (h1 : 0 < q1) (h2 : 0 < q2) : ∀ {r r' : Option (Int × Nat)}, Due form p1 q1 p2 q2 r → Due form p1 q1 p2 q2 r' → r = r' := by
  have uniq : ∀ {a b p p' : Int} {q q' : Nat}, b ≠ 0 → 0 < q → 0 < q' → p * b = a * q → p' * b = a * q' → Nat.gcd p.natAbs q = 1 → Nat.gcd p'.natAbs q' = 1 → p = p' ∧ q = q' := by
    intro a b p p' q q' hb hq hq' e e' c c'
    refine least_unique hq hq' ?_ c c'
    have : b * (p * q') = b * (p' * q) := by grind
    exact Int.eq_of_mul_eq_mul_left hb this
  have hq12 : (q1 : Int) * (q2 : Int) ≠ 0 := Int.mul_ne_zero (by omega) (by omega)
  intro r r' d d'
  cases r with
  | none => cases r' with
    | none => rfl
    | some x =>
      obtain ⟨p, q⟩ := x
      rcases d with ⟨rfl, e⟩ | ⟨rfl, e⟩
      · exact absurd e d'.1
      · exact absurd e d'.1
  | some x =>
    obtain ⟨p, q⟩ := x
    cases r' with
    | none =>
      rcases d' with ⟨rfl, e⟩ | ⟨rfl, e⟩
      · exact absurd e d.1
      · exact absurd e d.1
    | some y =>
      obtain ⟨p', q'⟩ := y
      have fin : p = p' ∧ q = q' → some (p, q) = some (p', q') := fun ⟨a, b⟩ => by rw [a, b]
      match form, d, d' with
      | 0, ⟨a, b, c⟩, ⟨a', b', c'⟩ => exact fin (uniq hq12 a a' b b' c c')
      | 1, ⟨a, b, c⟩, ⟨a', b', c'⟩ => exact fin (uniq hq12 a a' b b' c c')
      | 2, ⟨a, b, c⟩, ⟨a', b', c'⟩ => exact fin (uniq hq12 a a' b b' c c')
      | 3, ⟨hn, a, b, c⟩, ⟨_, a', b', c'⟩ => exact fin (uniq (Int.mul_ne_zero (by omega) hn) a a' b b' c c')
      | 4, ⟨hn, a, b, c⟩, ⟨_, a', b', c'⟩ => exact fin (uniq hn a a' b b' c c')
      | n + 5, ⟨a, b⟩, ⟨a', b'⟩ => exact fin ⟨a.trans a'.symm, b.trans b'.symm⟩

/-- the form that leads back -/
def back (form : Nat) : Nat := [1, 0, 3, 2, 4, 5].getD form 0
theorem due_back {form : Nat} (hf : form < 6) {p1 p2 p : Int} {q1 q2 q : Nat} (c1 : Nat.gcd p1.natAbs q1 = 1) (h1 : 0 < q1) (h2 : 0 < q2) (d : Due form p1 q1 p2 q2 (some (p, q))) (hb : form ≠ 2 ∨ p2 ≠ 0) :
    Due (back form) p q p2 q2 (some (p1, q1)) ∧ ¬ (back form = 3 ∧ p2 = 0) ∧ ¬ (back form = 4 ∧ p = 0) := by
  match form, hf, d, hb with
  | 0, _, ⟨a, b, c⟩, _ => exact ⟨⟨h1, by grind, c1⟩, fun h => absurd h.1 (by decide), fun h => absurd h.1 (by decide)⟩
  | 1, _, ⟨a, b, c⟩, _ => exact ⟨⟨h1, by grind, c1⟩, fun h => absurd h.1 (by decide), fun h => absurd h.1 (by decide)⟩
  | 2, _, ⟨a, b, c⟩, hb =>
    have hp : p2 ≠ 0 := hb.resolve_left (fun h => h rfl)
    exact ⟨⟨hp, h1, by grind, c1⟩, fun h => hp h.2, fun h => by cases h.1⟩
  | 3, _, ⟨hn, a, b, c⟩, _ => exact ⟨⟨h1, by grind, c1⟩, fun h => absurd h.1 (by decide), fun h => absurd h.1 (by decide)⟩
  | 4, _, ⟨hn, a, b, c⟩, _ =>
    have hp : p ≠ 0 := fun e => by
      rw [e, Int.zero_mul] at b
      have := Int.mul_ne_zero (show (q1 : Int) ≠ 0 by omega) (show (q : Int) ≠ 0 by omega)
      omega
    exact ⟨⟨hp, h1, by rw [Int.mul_comm, b, Int.mul_comm], c1⟩, fun h => absurd h.1 (by decide), fun h => hp h.2⟩
  | 5, _, ⟨a, b⟩, _ => exact ⟨⟨by rw [a]; omega, b.symm⟩, fun h => absurd h.1 (by decide), fun h => absurd h.1 (by decide)⟩

theorem dvd_of_cop {p r : Int} {q n : Nat} (c : Nat.gcd p.natAbs q = 1) (h : p * (n : Int) = r * (q : Int)) : q ∣ n := by
  have e : p.natAbs * n = r.natAbs * q := by
    have := congrArg Int.natAbs h
    rwa [Int.natAbs_mul, Int.natAbs_mul, Int.natAbs_natCast, Int.natAbs_natCast] at this
  exact Nat.Coprime.dvd_of_dvd_mul_left (Nat.Coprime.symm c) (by rw [e]; exact Nat.dvd_mul_left _ _)
theorem due_dvd {form : Nat} {p1 p2 p : Int} {q1 q2 q : Nat} (hf : form < 3) (d : Due form p1 q1 p2 q2 (some (p, q))) : ((q1 : Int) * (q2 : Int)) % (q : Int) = 0 := by
  have fin : q ∣ q1 * q2 → ((q1 : Int) * (q2 : Int)) % (q : Int) = 0 := fun h => by
    have := Nat.mod_eq_zero_of_dvd h
    exact_mod_cast this
  match form, hf, d with
  | 0, _, ⟨a, b, c⟩ => exact fin (dvd_of_cop c (by push_cast; exact b))
  | 1, _, ⟨a, b, c⟩ => exact fin (dvd_of_cop c (by push_cast; exact b))
  | 2, _, ⟨a, b, c⟩ => exact fin (dvd_of_cop c (by push_cast; exact b))
theorem due_pos {form : Nat} {p1 p2 p : Int} {q1 q2 q : Nat} (h1 : 0 < q1) (c1 : Nat.gcd p1.natAbs q1 = 1) (d : Due form p1 q1 p2 q2 (some (p, q))) : 0 < q ∧ Nat.gcd p.natAbs q = 1 := by
  match form, d with
  | 0, ⟨a, b, c⟩ => exact ⟨a, c⟩
  | 1, ⟨a, b, c⟩ => exact ⟨a, c⟩
  | 2, ⟨a, b, c⟩ => exact ⟨a, c⟩
  | 3, ⟨_, a, b, c⟩ => exact ⟨a, c⟩
  | 4, ⟨_, a, b, c⟩ => exact ⟨a, c⟩
  | n + 5, ⟨a, b⟩ => exact ⟨by rw [b]; exact h1, by rw [a, b, Int.natAbs_neg]; exact c1⟩

section
variable {C : Cx} {A : Around} {g : Heap} {L : Addr} {E : Value → Shared → Prop} {m : LM} {σ : ST} {env : Env} {l : List Env}
theorem done_any {vals : List Value} {form : Nat} {la lb : Addr} {w : Nat} {p1 p2 : Int} {q1 q2 : Nat} {K : V → ST → Prop} (G : Glob C g) (room : Room A 8) (hfr : A.frames = some l) (fo : FrOk g L l) (hl : ∀ b ∈ frs l, b = L)
    (hs : vals.map er = [.int (form : Int), .ref la, .ref lb, .int (w : Int)]) (hw : 1 ≤ w) (hw2 : w ≤ 30) (hform : form < 6) (g1 : Good p1 q1) (g2 : Good p2 q2) (f1 : FR σ w la p1 q1) (f2 : FR σ w lb p2 q2)
    (ret : ∀ v σ' r, Le σ σ' → VF σ' w v r → Due form p1 q1 p2 q2 r → K v σ') :
    W C A g L E m σ (PySem.call (.ref (fa C 44)) vals []) (fun v m' σ' => m' = m ∧ K (er v) σ') := by
  by_cases hc : (form = 3 ∧ p2 = 0) ∨ (form = 4 ∧ p1 = 0)
  · exact W_mono (done_none G room hfr fo hl hs hw f1 f2 hc) fun v m' σ' ⟨e1, e2, e3⟩ => ⟨e1, by rw [e2, e3]; exact ret _ _ none (Le.refl _) .none hc⟩
  · exact con_done C A g L E m σ (fa C 44) vals K G room (G.fn (by decide)).2 (by
      rw [hs]
      exact ⟨form, la, lb, w, p1, q1, p2, q2, rfl, hw, hw2, hform, g1, g2, fun h => hc (.inl h), fun h => hc (.inr h), f1, f2, fun r σ' p q h1 h2 h3 => ret _ _ (some (p, q)) h1 (.some h2) h3⟩)
end

theorem Con.weak {C : Cx} {n : Nat} {d : Stmt} {S S' : Spec} (h : Con C n d S) (hs : ∀ vs σ K, S' vs σ K → S vs σ K) : Con C n d S' := fun A g L E m σ a vals Q G room hf k => h A g L E m σ a vals Q G room hf (hs _ _ _ k)
def SWalkP : Spec := fun vs σ K => ∃ p f feet c many, vs = [.ref p, .int many] ∧ 0 < many ∧ many < 2 ^ 20 ∧ Path σ p f feet c ∧ 0 ≤ c ∧ c ≤ 1000 ∧
  ∀ r σ', LeBut p σ σ' → Path σ' p f feet (c + 1) → 0 ≤ r → r < many → K (.int r) σ'
theorem con_walkedP (C : Cx) : Con C 2 (defAt 38) SWalkP := (con_walked C).weak fun vs σ K ⟨p, f, feet, c, many, e, h0, h1, ⟨a1, a2, a3, a4⟩, c0, c1, k⟩ =>
  ⟨p, f, c, many, feet, e, h0, h1, c0, c1, a1, a3, a4, a2, fun r r0 r1 => k r _ (LeBut.refl p σ).upd ⟨a1, a2, upd_same _ _ _, by rw [upd_ne a1]; exact a4⟩ r0 r1⟩
theorem Path.le {σ σ' : ST} {p f : Addr} {feet : List Int} {c : Int} (h : Path σ p f feet c) (hle : Le σ σ') : Path σ' p f feet c := ⟨h.1, h.2.1, hle _ _ h.2.2.1, hle _ _ h.2.2.2⟩
theorem LeBut.tup {p a : Addr} {σ σ' : ST} {vs us : List V} (h : LeBut p σ σ') (hp : σ p = some (.list us)) (ht : σ a = some (.tup vs)) : σ' a = some (.tup vs) :=
  h a _ (fun e => by rw [e, hp] at ht; cases ht) ht
theorem W_done {C : Cx} {A : Around} {g : Heap} {L : Addr} {E : Value → Shared → Prop} {m : LM} {σ : ST} {l : List Env} {vals : List Value} {form : Nat} {la lb : Addr} {w : Nat} {p1 p2 : Int} {q1 q2 : Nat} {Q : V → LM → ST → Prop} (G : Glob C g) (room : Room A 8) (hfr : A.frames = some l) (fo : FrOk g L l) (hl : ∀ b ∈ frs l, b = L)
    (hs : vals.map er = [.int (form : Int), .ref la, .ref lb, .int (w : Int)]) (hw : 1 ≤ w) (hw2 : w ≤ 30) (hform : form < 6) (g1 : Good p1 q1) (g2 : Good p2 q2) (f1 : FR σ w la p1 q1) (f2 : FR σ w lb p2 q2)
    (ret : ∀ v σ' r, Le σ σ' → VF σ' w v r → Due form p1 q1 p2 q2 r → Q v m σ') :
    W C A g L E m σ (PySem.call (.ref (fa C 44)) vals []) (fun v => Q (er v)) :=
  W_mono (done_any (K := fun v σ' => Q v m σ') G room hfr fo hl hs hw hw2 hform g1 g2 f1 f2 ret) fun v m' σ' ⟨e, k⟩ => by subst e; exact k

theorem back_item {form : Nat} (h : form < 6) : ([V.int 1, V.int 0, V.int 3, V.int 2, V.int 4, V.int 5] : List V)[(form : Int).toNat]? = some (V.int ((back form : Nat) : Int)) := by
  match form, h with
  | 0, _ => rfl
  | 1, _ => rfl
  | 2, _ => rfl
  | 3, _ => rfl
  | 4, _ => rfl
  | 5, _ => rfl
theorem back_lt {form : Nat} (h : form < 6) : back form < 6 := by
  match form, h with
  | 0, _ => decide
  | 1, _ => decide
  | 2, _ => decide
  | 3, _ => decide
  | 4, _ => decide
  | 5, _ => decide
theorem X_sub {C : Cx} {A : Around} {g : Heap} {L : Addr} {E : Value → Shared → Prop} {m m' : LM} {σ : ST} {ss : List Stmt} {env : Env} {Q : Flow → LM → ST → Prop} (hs : Sub m' m) (h : X C A g L E m' σ ss env Q) : X C A g L E m σ ss env Q := W_sub hs h
theorem WE_known {C : Cx} {A : Around} {g : Heap} {L : Addr} {E : Value → Shared → Prop} {m : LM} {σ : ST} {t : Sem Value} {Q : V → LM → ST → Prop} (P : V → ST → Prop) (h : WE C A g L E m σ t (fun v m' σ' => m' = m ∧ P v σ')) (q : ∀ v σ', P v σ' → Q v m σ') : WE C A g L E m σ t Q :=
  WE_mono h fun v m' σ' ⟨e, k⟩ => by subst e; exact q v σ' k
set_option maxHeartbeats 16000000 in
theorem law_holds {C : Cx} {A : Around} {g : Heap} {L a sa : Addr} {qn : Str} {cd : Value} {vals : List Value} {ns : List Int} (G : Glob C g) (room : Room A 9) (hfr : A.frames = some [mkEnv (dScope (defAt 45)) L qn a cd]) (hsa : g.IsList sa vals.toArray) (hi : IntsAre vals ns) (hlen : vals.length ≤ 63) :
    X C A g L NoE ((["script"] : List Str).zip [V.ref sa]) (fun _ => none) (dBody (defAt 45)) (mkEnv (dScope (defAt 45)) L qn a cd) (fun f _ _ => retV f = .bool true) := by
  have fo : ∀ g', FrOk g' L [mkEnv (dScope (defAt 45)) L qn a cd] := fun g' env he => by
    rcases List.mem_cons.mp he with rfl | he
    · exact ⟨by show (dScope (defAt 45)).kind ≠ _; decide, L, rfl, .inl rfl⟩
    · cases he
  have hl : ∀ b ∈ frs [mkEnv (dScope (defAt 45)) L qn a cd], b = L := fun b hb => by
    rcases List.mem_cons.mp hb with rfl | hb
    · rfl
    · cases hb
  generalize [mkEnv (dScope (defAt 45)) L qn a cd] = fl at hfr fo hl
  generalize hσ : (fun _ => none : ST) = σ
  have hu : A.units + 64 < cLine := by have := room.units; omega
  have r8 : Room A 8 := room.less (by decide)
  ((conv in (dBody _) => whnf); (conv in (dScope _) => whnf); (try dsimp only [List.zip_cons_cons, List.zip_nil_left]))
  -- path
  walk_at "m.x"
  repeat walk_at "m.e"
  refine WE_feet (envOk_mk rfl) G room.handled rfl hsa hi hlen rfl (by decide) (by decide) rfl (by decide) rfl (fun _ => rfl) (fun _ => rfl) (fun _ => rfl) ?_
  intro f feet hf hfeet
  clear hσ
  have s1 : upd σ f (LI feet) f = some (LI feet) := upd_same _ _ _
  generalize upd σ f (LI feet) = σ₁ at *
  repeat walk_at "m.e"
  intro pt hpt
  have pa : Path (upd σ₁ pt (.list [.int 0, .ref f])) pt f feet 0 := ⟨(fun e => by rw [e, hpt] at s1; cases s1), hfeet, upd_same _ _ _, upd_fresh hpt s1⟩
  generalize upd σ₁ pt (.list [.int 0, .ref f]) = σ₂ at *
  -- w, plain
  walk_at "m.x"
  repeat walk_at "m.e"
  refine WE_callG (k := 38) (con_walkedP C) (envOk_mk rfl) G (room.less (by decide)) (by decide) rfl ?_ rfl rfl rfl
  repeat walk_at "m.e"
  refine ⟨pt, f, feet, 0, 4, rfl, by decide, by decide, pa, by decide, by decide, ?_⟩
  intro wi σ₃ _ pa₃ hw0 hw1
  repeat walk_at "m.e"
  obtain ⟨w, ew⟩ : ∃ w : Nat, 6 + wi = (w : Int) := ⟨(6 + wi).toNat, by omega⟩
  have hw : 1 ≤ w := by omega
  have hw2 : w ≤ 30 := by omega
  rw [ew]
  refine WE_callG (k := 42) (con_drawn C) (envOk_mk rfl) G (room.less (by decide)) (by decide) rfl ?_ rfl rfl rfl
  repeat walk_at "m.e"
  refine ⟨pt, f, feet, 0 + 1, rfl, pa₃, by decide, by decide, ?_⟩
  intro pl σ₄ p q _ pa₄ _ hpl q0 q9 p9 cpq
  repeat walk_at "m.e"
  intro tt htt
  repeat walk_at "m.e"
  have le5 := Le.upd (o := .tup [.int (w : Int), .ref pl]) (Le.refl σ₄) htt
  generalize upd σ₄ tt _ = σ₅ at *
  have pa₅ := pa₄.le le5
  have hpl₅ := le5 _ _ hpl
  -- moments
  walk_at "m.x"
  repeat walk_at "m.e"
  intro mo hmo
  have le6 := Le.upd (o := .list [.ref pl]) (Le.refl σ₅) hmo
  have hmo6 := upd_same σ₅ mo (.list [.ref pl])
  have mp : mo ≠ pt := fun e => by rw [e, pa₅.2.2.1] at hmo; cases hmo
  have mf : mo ≠ f := fun e => by rw [e, pa₅.2.2.2] at hmo; cases hmo
  generalize upd σ₅ mo (.list [.ref pl]) = σ₆ at *
  have pa₆ := pa₅.le le6
  have hpl₆ := le6 _ _ hpl₅
  clear hpl hpl₅ pa₅ pa₄ pa₃ pa le5 le6 htt hmo hpt s1 hf
  refine X_ForRangeN (ι := Addr × List (Addr × Int × Nat) × Int × Int × Nat) (envOk_mk rfl) G room.handled 0 1
    (fun _ j => [(Str.ofString "path", .ref pt), (Str.ofString "w", .int (w : Int)), (Str.ofString "plain", .ref j.1), (Str.ofString "moments", .ref mo)])
    (fun n i j σ' => n ≤ 4 ∧ Path σ' pt f feet j.2.2.1 ∧ 0 ≤ j.2.2.1 ∧ j.2.2.1 ≤ 4 + 3 * (i : Int) ∧ σ' mo = some (.list (j.2.1.map fun t => V.ref t.1)) ∧ (∀ t ∈ j.2.1, σ' t.1 = some (.tup [.int t.2.1, .int (t.2.2 : Int)])) ∧
      j.2.1.length ≤ i + 1 ∧ (∀ t ∈ j.2.1, t.2.1.natAbs ≤ 2 ^ 20 ∧ t.2.2 ≤ 2 ^ 20) ∧ σ' j.1 = some (.tup [.int j.2.2.2.1, .int (j.2.2.2.2 : Int)]) ∧ 0 < j.2.2.2.2 ∧ Nat.gcd j.2.2.2.1.natAbs j.2.2.2.2 = 1 ∧
      j.2.2.2.1.natAbs ≤ 9 * 18 ^ i ∧ j.2.2.2.2 ≤ 9 * 18 ^ i) ?_ ?_ ?_ rfl rfl rfl rfl (fun _ _ => rfl) (fun _ => rfl)
  · repeat walk_at "m.e"
    refine WE_callG (k := 38) (con_walkedP C) (envOk_mk rfl) G (room.less (by decide)) (by decide) rfl ?_ rfl rfl rfl
    repeat walk_at "m.e"
    refine ⟨pt, f, feet, _, 4, rfl, by decide, by decide, pa₆, by decide, by decide, ?_⟩
    intro ri σ₇ lb pa₇ hr0 hr1
    repeat walk_at "m.e"
    refine ⟨(1 + ri).toNat, .one (by omega) (by omega), (pl, [(pl, p, q)], 0 + 1 + 2 + 1, p, q), by (repeat' first | (with_reducible exact Sub.refl _) | (with_reducible exact Sub.nil _) | (with_reducible refine' Sub.cons ?_ ?_) | rfl), by omega, pa₇, by dsimp only; decide, by dsimp only; decide, lb _ _ mp hmo6, ?_, Nat.le_refl _, ?_, lb.tup pa₆.2.2.1 hpl₆, q0, cpq, by dsimp only; omega, by dsimp only; omega⟩
    · intro t ht
      rcases List.mem_cons.mp ht with rfl | ht
      · exact lb.tup pa₆.2.2.1 hpl₆
      · cases ht
    · intro t ht
      rcases List.mem_cons.mp ht with rfl | ht
      · dsimp only; omega
      · cases ht
  · clear pa₆ hpl₆ hmo6 q0 q9 p9 cpq G
    rintro n i ⟨pl, ms, c, p, q⟩ σ' g' hin ⟨hn, pa, hc0, hc1, hmo, hmt, hml, hmb, hpl, q0, cpq, bp, bq⟩ G
    dsimp only at pa hc0 hc1 hmo hmt hml hmb hpl q0 cpq bp bq
    have hM : 9 * 18 ^ i ≤ 2 ^ 20 := by
      have : 18 ^ i ≤ 18 ^ 3 := Nat.pow_le_pow_right (by decide) (by omega)
      omega
    have hM1 : 9 * 18 ^ (i + 1) = 18 * (9 * 18 ^ i) := by rw [Nat.pow_succ]; omega
    generalize hMd : 9 * 18 ^ i = M at *
    have g1 : Good p q := ⟨q0, cpq, by omega, by omega⟩
    -- form, other
    walk_at "m.x"
    repeat walk_at "m.e"
    refine WE_callG (k := 38) (con_walkedP C) (envOk_mk rfl) G (room.less (by decide)) (by decide) rfl ?_ rfl rfl rfl
    repeat walk_at "m.e"
    refine ⟨pt, f, feet, c, 6, rfl, by decide, by decide, pa, hc0, by omega, ?_⟩
    intro fi σ₁ lb₁ pa₁ hf0 hf1
    obtain ⟨form, rfl⟩ := Int.eq_ofNat_of_zero_le hf0
    repeat walk_at "m.e"
    refine WE_callG (k := 42) (con_drawn C) (envOk_mk rfl) G (room.less (by decide)) (by decide) rfl ?_ rfl rfl rfl
    repeat walk_at "m.e"
    refine ⟨pt, f, feet, c + 1, rfl, pa₁, by omega, by omega, ?_⟩
    intro ot σ₂ p2 q2 lb₂ pa₂ _ hot q20 q29 p29 cpq2
    repeat walk_at "m.e"
    intro tt htt
    repeat walk_at "m.e"
    have le3 := Le.upd (o := .tup [.int (form : Int), .ref ot]) (Le.refl σ₂) htt
    generalize upd σ₂ tt _ = σ₃ at *
    have lb := lb₁.trans lb₂
    have hmt := fun t ht => le3 _ _ (lb.tup pa.2.2.1 (hmt t ht))
    have hpl := le3 _ _ (lb.tup pa.2.2.1 hpl)
    have hmo := le3 _ _ (lb _ _ mp hmo)
    have hot := le3 _ _ hot
    have pa := pa₂.le le3
    have hform : form < 6 := by omega
    have g2 : Good p2 q2 := ⟨q20, cpq2, by omega, by omega⟩
    clear lb lb₁ lb₂ pa₁ pa₂ le3 htt
    -- due, x, y
    walk_at "m.x"
    repeat walk_at "m.e"
    refine WE_callG (k := 43) (con_due C) (envOk_mk rfl) G (room.less (by decide)) (by decide) rfl ?_ rfl rfl rfl
    repeat walk_at "m.e"
    refine ⟨form, pl, ot, p, q, p2, q2, M, rfl, hform, hpl, hot, q0, q20, bp, bq, p29, q29, hM, cpq, ?_⟩
    intro dv σ₄ r le4 vp due hbound
    repeat walk_at "m.e"
    refine WE_callG (k := 41) (con_frac C) (envOk_mk rfl) G (room.less (by decide)) (by decide) rfl ?_ rfl rfl rfl
    repeat walk_at "m.e"
    refine ⟨pl, w, p, q, rfl, hw, hw2, by omega, by omega, le4 _ _ hpl, ?_⟩
    rintro x σ₅ _ _ le5 fx ⟨e1, e2⟩
    rw [e1, e2] at fx
    clear e1 e2
    repeat walk_at "m.e"
    refine WE_callG (k := 41) (con_frac C) (envOk_mk rfl) G (room.less (by decide)) (by decide) rfl ?_ rfl rfl rfl
    repeat walk_at "m.e"
    refine ⟨ot, w, p2, q2, rfl, hw, hw2, by omega, by omega, le5 _ _ (le4 _ _ hot), ?_⟩
    rintro y σ₆ _ _ le6 fy ⟨e1, e2⟩
    rw [e1, e2] at fy
    clear e1 e2
    repeat walk_at "m.e"
    intro t3 ht3
    repeat walk_at "m.e"
    have le7 := Le.upd (o := .tup [dv, .ref x, .ref y]) (Le.refl σ₆) ht3
    have fx := fx.le (le6.trans le7)
    have fy := fy.le le7
    generalize upd σ₆ t3 _ = σ₇ at *
    have vp : VP σ₇ dv r := by
      cases vp with
      | none => exact .none
      | some h => exact .some (le7 _ _ (le6 _ _ (le5 _ _ h)))
    have le7 : Le σ₃ σ₇ := le4.trans (le5.trans (le6.trans le7))
    clear le4 le5 le6 ht3
    -- found
    walk_at "m.x"
    refine WE_callGW (k := 44) (envOk_mk rfl) G (by decide) rfl ?_ rfl rfl rfl
    repeat walk_at "m.e"
    intro vals' hs'
    refine W_done (Q := fun v m₁ σ₁ => X C A g' L NoE ((Str.ofString "found", v) :: m₁) σ₁ _ _ _) G r8 hfr (fo g') hl hs' hw hw2 hform g1 g2 fx fy ?_
    intro fv σ₈ rf le8 vf due'
    have er' := due_unique q0 q20 due' due
    subst er'
    have vp : VP σ₈ dv rf := by
      cases vp with
      | none => exact .none
      | some h => exact .some (le8 _ _ h)
    have fx := fx.le le8
    have fy := fy.le le8
    have le8 := le7.trans le8
    have hmt := fun t ht => le8 _ _ (hmt t ht)
    have hpl := le8 _ _ hpl
    have hmo := le8 _ _ hmo
    have hot := le8 _ _ hot
    have pa := pa.le le8
    clear le8 le7 due'
    -- found as due
    walk_at "m.x"
    refine T_neF hu rfl ?_
    walk_at "m.e"
    refine WE_known (fun v σ' => Le σ₈ σ' ∧ VF σ' w v rf) ?_ ?_
    · (with_reducible refine' WE_IfExp ?_)
      repeat walk_at "m.e"
      cases vp with
      | none =>
        refine if_tt ?_
        walk_at "m.e"
        exact ⟨rfl, Le.refl _, .none⟩
      | some h =>
        refine if_ff ?_
        refine WE_callG (k := 41) (con_frac C) (envOk_mk rfl) G (room.less (by decide)) (by decide) rfl ?_ rfl rfl rfl
        repeat walk_at "m.e"
        have hb := hbound _ _ rfl
        refine ⟨_, w, _, _, rfl, hw, hw2, by omega, by omega, h, ?_⟩
        rintro z σ₉ _ _ le9 fz ⟨rfl, rfl⟩
        exact ⟨rfl, le9, .some fz⟩
    rintro z σ₉ ⟨le9, vz⟩
    refine ⟨w, rf, rf, hw, vf.le le9, vz, ?_⟩
    rw [show decide (rf ≠ rf) = false by simp]
    dsimp only
    have fx := fx.le le9
    have fy := fy.le le9
    have vf := vf.le le9
    have vp : VP σ₉ dv rf := by
      cases vp with
      | none => exact .none
      | some h => exact .some (le9 _ _ h)
    have hmt := fun t ht => le9 _ _ (hmt t ht)
    have hpl := le9 _ _ hpl
    have hmo := le9 _ _ hmo
    have hot := le9 _ _ hot
    have pa := pa.le le9
    clear le9 vz
    repeat walk_at "m.x"
    -- x and y as they were
    refine WT_or2 ?_
    refine T_neF hu rfl ?_
    walk_at "m.e"
    refine WE_callG (k := 41) (con_frac C) (envOk_mk rfl) G (room.less (by decide)) (by decide) rfl ?_ rfl rfl rfl
    repeat walk_at "m.e"
    refine ⟨pl, w, p, q, rfl, hw, hw2, by omega, by omega, hpl, ?_⟩
    intro z1 σa p' q' leA fz1 ⟨e1, e2⟩
    rw [e1, e2] at fz1
    clear e1 e2
    refine ⟨w, some (p, q), some (p, q), hw, .some (fx.le leA), .some fz1, ?_⟩
    rw [show decide ((some (p, q) : Option (Int × Nat)) ≠ some (p, q)) = false by simp]
    dsimp only
    refine if_ff ?_
    refine T_neF hu rfl ?_
    walk_at "m.e"
    refine WE_callG (k := 41) (con_frac C) (envOk_mk rfl) G (room.less (by decide)) (by decide) rfl ?_ rfl rfl rfl
    repeat walk_at "m.e"
    refine ⟨ot, w, p2, q2, rfl, hw, hw2, by omega, by omega, leA _ _ hot, ?_⟩
    intro z2 σb p' q' leB fz2 ⟨e1, e2⟩
    rw [e1, e2] at fz2
    clear e1 e2
    refine ⟨w, some (p2, q2), some (p2, q2), hw, .some ((fy.le leA).le leB), .some fz2, ?_⟩
    rw [show decide ((some (p2, q2) : Option (Int × Nat)) ≠ some (p2, q2)) = false by simp]
    dsimp only
    have le9 := leA.trans leB
    have fx := fx.le le9
    have fy := fy.le le9
    have vf := vf.le le9
    have vp : VP σb dv rf := by
      cases vp with
      | none => exact .none
      | some h => exact .some (le9 _ _ h)
    have hmt := fun t ht => le9 _ _ (hmt t ht)
    have hpl := le9 _ _ hpl
    have hmo := le9 _ _ hmo
    have hot := le9 _ _ hot
    have pa := pa.le le9
    clear le9 leA leB fz1 fz2
    repeat walk_at "m.x"
    -- nothing due
    repeat walk_at "m.e"
    cases vp with
    | none =>
      refine if_tt ?_
      repeat walk_at "m.x"
      refine ⟨(pl, ms, c + 1 + 2, p, q), by (repeat' first | (with_reducible exact Sub.refl _) | (with_reducible exact Sub.nil _) | (with_reducible refine' Sub.cons ?_ ?_) | rfl), hn, pa, by dsimp only; omega, by dsimp only; omega, hmo, hmt, by dsimp only; omega, hmb, hpl, q0, cpq, by dsimp only; omega, by dsimp only; omega⟩
    | @some da dp dq hda =>
    refine if_ff ?_
    repeat walk_at "m.x"
    obtain ⟨hb1, hb2⟩ := hbound _ _ rfl
    obtain ⟨dq0, cd'⟩ := due_pos q0 cpq due
    cases vf with
    | @some fa' _ _ ff =>
    -- the bottom divides
    refine WT_is false ?_ ?_
    · refine WT_and2 ?_
      repeat walk_at "m.e"
      refine if_dec (fun h => ?_) (fun h => ?_)
      · repeat walk_at "m.e"
        exact ⟨decide_eq_false (fun h' => h' (due_dvd (by omega) due)), rfl, rfl⟩
      · exact ⟨rfl, rfl, rfl⟩
    refine if_ff ?_
    walk_at "m.x"
    walk_at "m.x"
    -- the step taken back
    refine X_IfJoin (fun m₂ σ₂ => Sub [(Str.ofString "path", .ref pt), (Str.ofString "w", .int (w : Int)), (Str.ofString "moments", .ref mo), (Str.ofString "due", .ref da), (Str.ofString "found", .ref fa')] m₂ ∧ Le σb σ₂) ?_ ?_
    · refine WT_is (decide (form ≠ 2 ∨ p2 ≠ 0)) ?_ ?_
      · refine WT_or2 ?_
        repeat walk_at "m.e"
        refine if_dec (fun h => ?_) (fun h => ?_)
        · exact ⟨(decide_eq_true (Or.inl (by omega))).symm, rfl, rfl⟩
        · repeat walk_at "m.e"
          exact ⟨decide_eq_decide.mpr ⟨fun e => .inr e, fun e => e.resolve_left (by omega)⟩, rfl, rfl⟩
      refine if_dec (fun hbk => ?_) (fun hbk => ?_)
      · obtain ⟨due2, n3, n4⟩ := due_back hform cpq q0 q20 due hbk
        walk_at "m.x"
        refine T_neF hu rfl ?_
        refine WE_callGW (k := 44) (envOk_mk rfl) G (by decide) rfl ?_ rfl rfl rfl
        repeat walk_at "m.e"
        intro lo hlo
        have leC := Le.upd (o := .list [.int 1, .int 0, .int 3, .int 2, .int 4, .int 5]) (Le.refl σb) hlo
        have hlo' := upd_same σb lo (.list [.int 1, .int 0, .int 3, .int 2, .int 4, .int 5])
        generalize upd σb lo _ = σc at *
        repeat walk_at "m.e"
        refine itemK_any hlo' (by omega) (by omega) (back_item hform) ?_
        repeat walk_at "m.e"
        intro vals2 hs2
        refine W_mono (done_any (K := fun v σ' => ∃ r', Le σc σ' ∧ VF σ' w v r' ∧ Due (back form) dp dq p2 q2 r') G r8 hfr (fo g') hl hs2 hw hw2 (back_lt hform) ⟨dq0, cd', by omega, by omega⟩ g2 (ff.le leC) (fy.le leC) (fun v σ' r h1 h2 h3 => ⟨r, h1, h2, h3⟩)) ?_
        rintro v2 m' σd ⟨rfl, r2, leD, vf2, due3⟩
        generalize er v2 = v2 at *
        have e := due_unique dq0 q20 due3 due2
        subst e
        repeat walk_at "m.e"
        refine ⟨w, some (p, q), some (p, q), hw, vf2, .some ((fx.le leC).le leD), ?_⟩
        rw [show decide ((some (p, q) : Option (Int × Nat)) ≠ some (p, q)) = false by simp]
        dsimp only
        repeat walk_at "m.x"
        exact ⟨rfl, by (repeat' first | (with_reducible exact Sub.refl _) | (with_reducible exact Sub.nil _) | (with_reducible refine' Sub.cons ?_ ?_) | rfl), leC.trans leD⟩
      · walk_at "m.x"
        exact ⟨rfl, by (repeat' first | (with_reducible exact Sub.refl _) | (with_reducible exact Sub.nil _) | (with_reducible refine' Sub.cons ?_ ?_) | rfl), Le.refl _⟩
    intro m₂ σ₂' ⟨hsub, leE⟩
    refine X_sub hsub ?_
    have ff := ff.le leE
    have hda := leE _ _ hda
    have hmt := fun t ht => leE _ _ (hmt t ht)
    have hmo := leE _ _ hmo
    have pa := pa.le leE
    clear leE hsub hpl hot fx fy
    -- the moments
    refine X_ForList (ι := Unit) (envOk_mk rfl) G room.handled mo (ms.map fun t => V.ref t.1)
      (fun _ _ => [(Str.ofString "path", .ref pt), (Str.ofString "w", .int (w : Int)), (Str.ofString "moments", .ref mo), (Str.ofString "due", .ref da), (Str.ofString "found", .ref fa')])
      (fun _ _ σ' => Le σ₂' σ') ?_ (fun _ _ _ h => h _ _ hmo) ?_ ?_ rfl (fun _ _ => rfl) (fun _ => rfl)
    · repeat walk_at "m.e"
      exact ⟨rfl, (), by (repeat' first | (with_reducible exact Sub.refl _) | (with_reducible exact Sub.nil _) | (with_reducible refine' Sub.cons ?_ ?_) | rfl), Le.refl _⟩
    · rintro k _ σ₁' g2' hk leF G2
      obtain ⟨t, htm, hte⟩ : ∃ t ∈ ms, (ms.map fun t => V.ref t.1).getD k .none = V.ref t.1 := by
        rw [List.length_map] at hk
        exact ⟨ms[k], List.getElem_mem hk, by simp [hk]⟩
      rw [hte]
      have ht1 := leF _ _ (hmt t htm)
      have hda := leF _ _ hda
      have ff := ff.le leF
      obtain ⟨tb1, tb2⟩ := hmb t htm
      obtain ⟨ta, tp, tq⟩ := t
      dsimp only at ht1 tb1 tb2 ⊢
      walk_at "m.x"
      repeat walk_at "m.e"
      walk_at "m.x"
      refine WE_callG (k := 28) (con_rcmp C) (envOk_mk rfl) G2 (room.less (by decide)) (by decide) rfl ?_ rfl rfl rfl
      repeat walk_at "m.e"
      refine WE_callG (k := 41) (con_frac C) (envOk_mk rfl) G2 (room.less (by decide)) (by decide) rfl ?_ rfl rfl rfl
      repeat walk_at "m.e"
      refine ⟨ta, w, tp, tq, rfl, hw, hw2, by omega, by omega, ht1, ?_⟩
      intro z3 σe p' q' leG fz3 ⟨e1, e2⟩
      rw [e1, e2] at fz3
      clear e1 e2
      repeat walk_at "m.e"
      refine E_fn (k := 30) (envOk_mk rfl) G2 (by decide) rfl rfl (by decide) ?_
      repeat walk_at "m.e"
      refine ⟨fa', z3, w, dp, dq, tp, tq, rfl, hw, hw2, by omega, by omega, by omega, by omega, ff.le leG, fz3, ?_⟩
      intro σf leH
      walk_at "m.x"
      repeat walk_at "m.e"
      refine E_intB (envOk_mk rfl) G2 rfl rfl ?_
      repeat walk_at "m.e"
      refine ⟨_, rfl, ?_⟩
      repeat walk_at "m.e"
      refine E_intB (envOk_mk rfl) G2 rfl rfl ?_
      repeat walk_at "m.e"
      refine ⟨_, rfl, ?_⟩
      repeat walk_at "m.e"
      generalize dp * (tq : Int) = u1 at *
      generalize tp * (dq : Int) = u2 at *
      rw [show decide (cmpZ u1 u2 ≠ (if decide (0 < u1 - u2) = true then (1 : Int) else 0) - (if decide (u1 - u2 < 0) = true then 1 else 0)) = false from ?_]
      · repeat walk_at "m.x"
        exact ⟨(), by (repeat' first | (with_reducible exact Sub.refl _) | (with_reducible exact Sub.nil _) | (with_reducible refine' Sub.cons ?_ ?_) | rfl), leF.trans (leG.trans leH)⟩
      · apply decide_eq_false
        intro hne
        apply hne
        unfold cmpZ
        simp only [decide_eq_true_eq]
        split <;> split <;> (try split) <;> (try split) <;> omega
    · rintro _ σz leZ
      have hda := leZ _ _ hda
      have hmt := fun t ht => leZ _ _ (hmt t ht)
      have hmo := leZ _ _ hmo
      have pa := pa.le leZ
      refine X_appendI (envOk_mk rfl) rfl ⟨_, hmo⟩ rfl (by decide) rfl rfl rfl rfl rfl rfl ?_
      repeat walk_at "m.e"
      refine ⟨_, hmo, by rw [List.length_map]; omega, ?_⟩
      have tne : ∀ {b : Addr} {us : List V}, σz b = some (.tup us) → b ≠ mo := fun e z => by rw [z, hmo] at e; cases e
      have e1 : upd σz mo (.list (ms.map (fun t => V.ref t.1) ++ [.ref da])) mo = some (.list ((ms ++ [(da, dp, dq)]).map fun t => V.ref t.1)) := by rw [upd_same, List.map_append]; rfl
      have e2 : ∀ t ∈ ms ++ [(da, dp, dq)], upd σz mo (.list (ms.map (fun t => V.ref t.1) ++ [.ref da])) t.1 = some (.tup [.int t.2.1, .int (t.2.2 : Int)]) := fun t ht => by
        rcases List.mem_append.mp ht with ht | ht
        · rw [upd_ne (tne (hmt t ht))]; exact hmt t ht
        · rcases List.mem_cons.mp ht with rfl | ht
          · rw [upd_ne (tne hda)]; exact hda
          · cases ht
      have e3 : upd σz mo (.list (ms.map (fun t => V.ref t.1) ++ [.ref da])) da = some (.tup [.int dp, .int (dq : Int)]) := by rw [upd_ne (tne hda)]; exact hda
      have e4 : Path (upd σz mo (.list (ms.map (fun t => V.ref t.1) ++ [.ref da]))) pt f feet (c + 1 + 2) := ⟨pa.1, pa.2.1, by rw [upd_ne (Ne.symm mp)]; exact pa.2.2.1, by rw [upd_ne (Ne.symm mf)]; exact pa.2.2.2⟩
      generalize upd σz mo _ = σy at *
      repeat walk_at "m.x"
      repeat walk_at "m.e"
      repeat walk_at "m.x"
      refine ⟨(da, ms ++ [(da, dp, dq)], c + 1 + 2, dp, dq), by (repeat' first | (with_reducible exact Sub.refl _) | (with_reducible exact Sub.nil _) | (with_reducible refine' Sub.cons ?_ ?_) | rfl), hn, e4, by dsimp only; omega, by dsimp only; omega, e1, e2, ?_, ?_, e3, dq0, cd', by dsimp only; omega, by dsimp only; omega⟩
      · dsimp only
        rw [List.length_append, List.length_singleton]; omega
      · intro t ht
        rcases List.mem_append.mp ht with ht | ht
        · exact hmb t ht
        · rcases List.mem_cons.mp ht with rfl | ht
          · have : 18 ^ (i + 1) ≤ 18 ^ 4 := Nat.pow_le_pow_right (by decide) (by omega)
            dsimp only; omega
          · cases ht
  · intro n j σ' _
    exact X_Return (fun hh tk R => wpAny_Constant_bool ⟨hh, tk, _, _, rfl, R, rfl⟩)

def idx : List Nat := [4, 5, 6, 7, 8, 9, 10, 11, 13, 14, 15, 16, 17, 19, 20, 21, 22, 23, 24, 25, 26, 27, 28, 30, 31, 32, 33, 34, 35, 36, 38, 39, 40, 41, 42, 43, 44, 45]
theorem recs_at : (recsOf Mine.vw).map (fun d => (d.name, d.params, d.body, d.scope)) = idx.map (fun k => (dName (defAt k), dParams (defAt k), dBody (defAt k), dScope (defAt k))) := by kernel_rfl

theorem rec_at {k : Nat} (h : k ∈ idx) : ∃ d ∈ recsOf Mine.vw, d.name = dName (defAt k) ∧ d.params = dParams (defAt k) ∧ d.body = dBody (defAt k) ∧ d.scope = dScope (defAt k) := by
  have : (dName (defAt k), dParams (defAt k), dBody (defAt k), dScope (defAt k)) ∈ (recsOf Mine.vw).map (fun d => (d.name, d.params, d.body, d.scope)) := by
    rw [recs_at]
    exact List.mem_map_of_mem (f := fun k => (dName (defAt k), dParams (defAt k), dBody (defAt k), dScope (defAt k))) h
  obtain ⟨d, hd, e⟩ := List.mem_map.mp this
  simp only [Prod.mk.injEq] at e
  exact ⟨d, hd, e⟩
theorem glob_of {C : Cx} {loose : List Str} {mean : ExcName → Option Value} {h : Heap} (T : Top Mine.vw loose mean C.mg C.mb h) (hn : ∀ x ∈ (["len", "range", "enumerate", "min", "abs", "int"] : List Str), C.mg x = none)
    (hx : ∃ Cl, OwnCls "DivisionByZero" Cl [.type "Exception", .type "BaseException", .type "object"] "Exception.__new__" C.mg h) : Glob C h where
  ng := T.g
  nb := T.b
  nolim := T.nolimit
  bui := T.builtins
  nomg := hn
  fns := fun k hk => by
    have hk' : k ∈ idx := by
      have : ∀ k ∈ known, k ∈ idx := by decide
      exact this k hk
    obtain ⟨d, hd, e1, e2, e3, e4⟩ := rec_at hk'
    obtain ⟨a, o, pm, code, doc, h1, h2, h3, h4⟩ := T.fn d hd
    rw [e1] at h1 h4
    rw [e1, e2, e3, e4] at h3
    exact ⟨a, h1, o, doc, pm, none, code, _, h2, h3, h4⟩
  exc := let ⟨Cl, O⟩ := hx; ⟨Cl, _, _, _, _, PySem.F.excBase_Exception, O⟩
theorem six_free : ∀ x ∈ (["len", "range", "enumerate", "min", "abs", "int"] : List Str), x ∉ startupNames ∧ x ∉ looseW Mine.vw [] ∧ x ∉ (recsOf Mine.vw).map (·.name) ∧ x ∉ (litsOf Mine.vw).map (·.1) ∧ x ∉ (clssOf Mine.vw (looseW Mine.vw [])).map (·.name) := by decide +kernel
theorem exc_spec : specOf Mine.vw "DivisionByZero" = some ("Exception.__new__", [.type "Exception", .type "BaseException", .type "object"]) := by kernel_rfl
end Mine
set_option maxHeartbeats 8000000 in
theorem PySem.Challenge.cw_sj0081_01_holds : PySem.Challenge.rw_sj0081_01.Holds := by
  w_on
  refine holds_law Mine.said fun said => ?_
  refine holds_open (q := Mine.vw) (loose := []) (Xt := fun s => xlAt Mine.vw [] s && recOk PySem.Challenge.rw_sj0081_01.row.toRowW.records s) (XP := XL Mine.vw []) (Yf := Hook.obs Hook.none) (Ya := Hook.val Hook.none) (YP := Hook.says Hook.none) (N := 3936) Mine.left (Hook.of Hook.none) (Hook.keeps Hook.none) (fun s e => xl_of s (Bool.and_eq_true_iff.mp e).1) XL.keeps (by rfl) (by rfl) (by rfl) (fun s e => recFacts_of (Bool.and_eq_true_iff.mp e).2) (by rfl) said (by decide +kernel) ⟨rfl, rfl, rfl, rfl, rfl, by decide +kernel⟩ ?hw ?hc
  case hw => w_witness2
  intro w s₀ s₁ mg mb G Y fa o pm cd doc dV kV ho hd hcd hD hmg hg args vals as hpre hlay hrd hwl hlo
  have X := (Ground.X G).1
  have V := (Ground.X G).2
  refine Ground.open G ?_
  intro T B D TE TW
  try (refine guard_noD D (by decide +kernel) ?_; clear D)
  obtain ⟨_, _, M⟩ := bmod_of_top T
  have TA := at_of_top T
  try (obtain ⟨_, _, he, B0⟩ := based_of_top T rfl hmg ho hd; have he' : cd = _ := he; subst he'; clear he)
  clear hmg
  wrow_args hpre hlay hrd hwl hlo
  all_goals (
    first | refine callC_kw (enter_call ?_) | refine enter_call ?_ | refine callC_kw (enter_callW ?_) | refine enter_callW ?_ | w_how
    w_top on
    try refine codeAny_mono ?_ (fun _ _ g => GoodW.toG g)
    have K0 := below_caller (Top.heap T)
    w_call any ho hd hcd hD T F
    clear hd TA)
  rename Top _ _ _ _ _ _ => T
  rename Heap.IsList _ _ _ => hL
  rename IntsAre _ _ => hI
  rename Fr _ _ _ _ => F
  rename News _ _ _ _ => N
  rename ¬ _ => hcond
  have GG : ∀ prog, Mine.Glob ⟨prog, w, s₁, mg, mb⟩ s₁.heap := fun prog => Mine.glob_of (C := ⟨prog, w, s₁, mg, mb⟩) T (fun x hx => let ⟨a, b, c, d, e⟩ := Mine.six_free x hx; T.free x a b c d e) (let ⟨Cl, O, _⟩ := T.ownAt Mine.exc_spec; ⟨Cl, O.own⟩)
  have hlen := hI.length
  refine wpAny_mono (Mine.law_holds (C := ⟨_, w, s₁, mg, mb⟩) (A := callerA.deeper _) (g := s₁.heap) (L := s₁.heap.objs.size) (a := fa) (GG _) ⟨rfl, by show callerA.depth + 1 + 9 < recursionLimit; decide, by show callerA.units + 3 + 5 * 9 + 20 < cLine; decide⟩ (Around.frames_deeper rfl) hL hI (by omega) _ _ ?_) (fun f s' p => ?_) (fun _ _ x => x.elim)
  · exact ⟨⟨_, ⟨F.ns, F.keep, Heap.get?_none_of_le (Nat.le_refl _)⟩, fun x v e => by
      rw [show ((["script"] : List Str).zip [Mine.V.ref _]) = [(Str.ofString "script", Mine.V.ref _)] from rfl, List.lookup_cons] at e
      cases hx : (x == Str.ofString "script") with
      | true => rw [hx] at e; cases e; rw [beq_iff_eq.mp hx]; exact ⟨_, rfl, rfl⟩
      | false => rw [hx] at e; cases e⟩, fun a o e => by cases e⟩
  · obtain ⟨h', tk', m', σ', rfl, R, q⟩ := p
    obtain ⟨mc, FF, _⟩ := R.fr
    have F' : Fr s₁.heap s₁.heap.objs.size h' mc := ⟨FF.ns, FF.keep, Nat.le_refl _⟩
    cases f with
    | next => cases q
    | brk => cases q
    | cont => cases q
    | ret v =>
      have e : v = .bool true := Mine.er_bool q
      subst e
      refine goodW_bool (b := true) F' hg (raisesW_false ?_) ?_
      · wrow_none_raised
      · skip
        wrow_post
