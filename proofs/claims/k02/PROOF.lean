import PyProof.Rows.All
import PySem.Challenge.RW_kindsmeet_k02_ratios
import Wide.All
import OpenK.AllK
import Wide.FinOn
import HandS.ForMost
import HandS.ForExc
import HandS.Defaults
import HandS.HeadHook1
import HandS.HeadHook2
import HandS.Wide
import HandS.Property
import HandS.ExcInit
import HandS.ExcField
import HandS.ClsMeth
import KE.KOpsOwn
import HandS.IsInst
import HandS.OwnEq
import HandS.TryOnly
import HandS.List
import PyProof.ReprRoads
import PyProof.CallFns
import HandS.HeadEnd
import HandS.Ends
import HandS.Comp
import HandS.Head0
import HandS.Head1
import HandS.Head2
set_option Elab.async false
set_option linter.all false
set_option maxRecDepth 100000
set_option maxHeartbeats 4000000
/-! Data, the frozen part of a heap, the monad of wishes, the judgement. -/
namespace L3
open PySem PySem.Spec PyProof.Rows L2

/-! ### data -/
inductive D where
  | scr (ns : List Int) | box | ty (n : String) | cl (x : Str) | non | bool (b : Bool) | int (i : Int) | str (s : Str) | rat (q : Rat)
  | lst (xs : List D) | tup (xs : List D)
  | dK (ks : List Key) (vs : List D)
  | dT (ks : List (List Key)) (vs : List D)
  | ins (C : Str) (ns : List Str) (vs : List D)

def ratF (q : Rat) : List (Str × V) := [("own_top", .int q.num), ("own_bottom", .int (q.den : Int))]

mutual
/-- the value v, in the heap F, is the datum -/
def Is (K : PySem.W.Frag) (p : Option Addr) (F : Hp) : D → V → Prop
  | .scr ns, v => ∃ a, v = .ref a ∧ SqL K F a (ns.map V.int)
  | .box, v => ∃ a, p = some a ∧ v = .ref a
  | .ty n, v => v = .ty n
  | .cl x, v => v = .ref (He.ga K x)
  | .non, v => v = .non
  | .bool b, v => v = .bl b
  | .int i, v => v = .int i
  | .str s, v => v = .str s
  | .rat q, v => ∃ a dx, v = .ref a ∧ F a = some (.ins (He.ga K "Ratio") dx (ratF q))
  | .lst ds, v => ∃ a vs, v = .ref a ∧ F a = some (.lst vs) ∧ IsL K p F ds vs
  | .tup ds, v => ∃ a vs, v = .ref a ∧ F a = some (.tup vs) ∧ IsL K p F ds vs
  | .dK ks ds, v => ∃ a vs, v = .ref a ∧ F a = some (.dK (ks.zip vs)) ∧ ks.length = vs.length ∧ IsL K p F ds vs
  | .dT ks ds, v => ∃ a vs, v = .ref a ∧ F a = some (.dT (ks.zip vs)) ∧ ks.length = vs.length ∧ IsL K p F ds vs
  | .ins C ns ds, v => ∃ a dx vs, v = .ref a ∧ F a = some (.ins (He.ga K C) dx (ns.zip vs)) ∧ ns.length = vs.length ∧ IsL K p F ds vs
def IsL (K : PySem.W.Frag) (p : Option Addr) (F : Hp) : List D → List V → Prop
  | [], vs => vs = []
  | d :: ds, vs => ∃ v r, vs = v :: r ∧ Is K p F d v ∧ IsL K p F ds r
end

def Ex (H H' : Hp) : Prop := ∀ a o, H a = some o → H' a = some o
theorem Ex.refl (H : Hp) : Ex H H := fun _ _ h => h
theorem Ex.trans {H H1 H2 : Hp} (a : Ex H H1) (b : Ex H1 H2) : Ex H H2 := fun x o h => b x o (a x o h)
theorem Ex.updN {H H' : Hp} {p : Addr} {o : HO} (e : Ex H H') (h : H p = none) : Ex H (L2.upd H' p o) := fun a u ha => by
  rw [upd_ne (ne_of_none ha h)]; exact e a u ha
theorem Ex.new {H : Hp} {p : Addr} {o : HO} (h : H p = none) : Ex H (L2.upd H p o) := (Ex.refl H).updN h
theorem Ex.upd2 {H H' : Hp} {p : Addr} {o : HO} (e : Ex H H') : Ex (L2.upd H p o) (L2.upd H' p o) := fun a u ha => by
  by_cases hp : a = p
  · subst hp; rw [upd_same] at ha ⊢; exact ha
  · rw [upd_ne hp] at ha ⊢; exact e a u ha
theorem Ex.none {H H' : Hp} {a : Addr} (e : Ex H H') (h : H' a = none) : H a = none := by
  cases q : H a with
  | none => rfl
  | some o => rw [e a o q] at h; cases h

theorem sqL_mono {K : PySem.W.Frag} {F F' : Hp} {a : Addr} {xs : List V} (e : Ex F F') (h : SqL K F a xs) : SqL K F' a xs := by
  rcases h with h | h
  · rcases h with h | ⟨o, h⟩
    · exact .inl (.inl (e _ _ h))
    · exact .inl (.inr ⟨o, e _ _ h⟩)
  · exact .inr h
mutual
theorem Is.mono {K : PySem.W.Frag} {p : Option Addr} {F F' : Hp} (e : Ex F F') : ∀ {d : D} {v : V}, Is K p F d v → Is K p F' d v
  | .scr _, _, h => by
    obtain ⟨a, h1, h2⟩ := h
    exact ⟨a, h1, sqL_mono e h2⟩
  | .box, _, h => h
  | .ty _, _, h => h
  | .cl _, _, h => h
  | .non, _, h => h
  | .bool _, _, h => h
  | .int _, _, h => h
  | .str _, _, h => h
  | .rat _, _, h => by
    obtain ⟨a, dx, h1, h2⟩ := h
    exact ⟨a, dx, h1, e _ _ h2⟩
  | .lst ds, _, h => by
    obtain ⟨a, vs, h1, h2, h3⟩ := h
    exact ⟨a, vs, h1, e _ _ h2, IsL.mono e h3⟩
  | .tup ds, _, h => by
    obtain ⟨a, vs, h1, h2, h3⟩ := h
    exact ⟨a, vs, h1, e _ _ h2, IsL.mono e h3⟩
  | .dK ks ds, _, h => by
    obtain ⟨a, vs, h1, h2, h3, h4⟩ := h
    exact ⟨a, vs, h1, e _ _ h2, h3, IsL.mono e h4⟩
  | .dT ks ds, _, h => by
    obtain ⟨a, vs, h1, h2, h3, h4⟩ := h
    exact ⟨a, vs, h1, e _ _ h2, h3, IsL.mono e h4⟩
  | .ins C ns ds, _, h => by
    obtain ⟨a, dx, vs, h1, h2, h3, h4⟩ := h
    exact ⟨a, dx, vs, h1, e _ _ h2, h3, IsL.mono e h4⟩
theorem IsL.mono {K : PySem.W.Frag} {p : Option Addr} {F F' : Hp} (e : Ex F F') : ∀ {ds : List D} {vs : List V}, IsL K p F ds vs → IsL K p F' ds vs
  | [], _, h => h
  | d :: ds, _, h => by
    obtain ⟨v, r, h1, h2, h3⟩ := h
    exact ⟨v, r, h1, Is.mono e h2, IsL.mono e h3⟩
end
theorem IsL.length {K : PySem.W.Frag} {p : Option Addr} {F : Hp} : ∀ {ds : List D} {vs : List V}, IsL K p F ds vs → vs.length = ds.length
  | [], _, h => by rw [show _ = [] from h]; rfl
  | d :: ds, _, h => by
    obtain ⟨v, r, h1, h2, h3⟩ := h
    rw [h1, List.length_cons, List.length_cons, IsL.length h3]

/-! ### types as data -/
class ToD (α : Type) where
  toD : α → D
open ToD
instance : ToD D := ⟨id⟩
instance : ToD Unit := ⟨fun _ => .non⟩
instance : ToD Bool := ⟨.bool⟩
instance : ToD Int := ⟨.int⟩
instance : ToD Str := ⟨.str⟩
instance : ToD Rat := ⟨.rat⟩
instance {α : Type} [ToD α] : ToD (List α) := ⟨fun xs => .lst (xs.map toD)⟩
instance {α β : Type} [ToD α] [ToD β] : ToD (α × β) := ⟨fun p => .tup [toD p.1, toD p.2]⟩
instance {α : Type} [ToD α] : ToD (Option α) := ⟨fun o => match o with | none => .non | some x => toD x⟩

/-! ### the monad of wishes: N counts what is drawn -/
structure Err where
  cls : Str
  fs : List (Str × D)
abbrev M (α : Type) : Type := Nat → (α → Nat → Prop) → (Err → Nat → Prop) → Prop
namespace M
variable {α β : Type}
@[reducible] def pure (x : α) : M α := fun N Q _ => Q x N
@[reducible] def bind (m : M α) (k : α → M β) : M β := fun N Q E => m N (fun x N1 => k x N1 Q E) E
@[reducible] def throw (e : Err) : M α := fun N _ E => E e N
@[reducible] def bad : M α := fun _ _ _ => False
@[reducible] def ask (p : Prop) (m : M α) : M α := fun N Q E => p ∧ m N Q E
@[reducible] def iff (b : Bool) (m n : M α) : M α := cond b m n
theorem bind_pure (m : M α) : bind m pure = m := rfl
theorem pure_bind (x : α) (k : α → M β) : bind (pure x) k = k x := rfl
theorem bind_assoc {γ : Type} (m : M α) (k : α → M β) (l : β → M γ) : bind (bind m k) l = bind m (fun x => bind (k x) l) := rfl
end M

/-! ### how a state moves: F the frozen part of H; p may be written -/
structure Gd (p : Option Addr) (F H F' H' : Hp) : Prop where
  h : ∀ a o, p ≠ some a → H a = some o → H' a = some o
  f : Ex F F'
  sub : Ex F' H'
  sep : ∀ a o, F' a = some o → F a = some o ∨ H a = none
  live : ∀ a, H' a = none → H a = none
theorem Gd.refl {p : Option Addr} {F H : Hp} (e : Ex F H) : Gd p F H F H := ⟨fun _ _ _ h => h, Ex.refl F, e, fun _ _ h => .inl h, fun _ h => h⟩
theorem Gd.trans {p : Option Addr} {F H F1 H1 F2 H2 : Hp} (a : Gd p F H F1 H1) (b : Gd p F1 H1 F2 H2) : Gd p F H F2 H2 where
  h := fun x o n q => b.h x o n (a.h x o n q)
  f := a.f.trans b.f
  sub := b.sub
  sep := fun x o q => (b.sep x o q).elim (fun z => a.sep x o z) fun z => .inr (a.live x z)
  live := fun x q => a.live x (b.live x q)
/-- moves that write nothing -/
theorem Gd.of {p : Option Addr} {F H F' H' : Hp} (f : Ex F F') (h : Ex H H') (sub : Ex F' H') (sep : ∀ a o, F' a = some o → F a = some o ∨ H a = none) : Gd p F H F' H' :=
  ⟨fun a o _ q => h a o q, f, sub, sep, fun a q => h.none q⟩
theorem Gd.weak {p : Option Addr} {F H F' H' : Hp} (g : Gd none F H F' H') : Gd p F H F' H' :=
  ⟨fun a o _ q => g.h a o (fun z => by cases z) q, g.f, g.sub, g.sep, g.live⟩
/-- a new object, frozen at once -/
theorem Gd.new {p : Option Addr} {F H : Hp} {a : Addr} {o : HO} (e : Ex F H) (n : H a = none) : Gd p F H (upd F a o) (upd H a o) where
  h := fun b u _ q => by rw [upd_ne (ne_of_none q n)]; exact q
  f := Ex.new (e.none n)
  sub := e.upd2
  sep := fun b u q => by
    by_cases hb : b = a
    · exact .inr (hb ▸ n)
    · rw [upd_ne hb] at q; exact .inl q
  live := fun b q => by
    by_cases hb : b = a
    · rw [hb, upd_same] at q; cases q
    · rw [upd_ne hb] at q; exact q
/-- a new object that stays open -/
theorem Gd.newO {p : Option Addr} {F H : Hp} {a : Addr} {o : HO} (e : Ex F H) (n : H a = none) : Gd p F H F (upd H a o) :=
  Gd.of (Ex.refl F) (Ex.new n) (e.updN (e.none n)) fun _ _ h => .inl h

/-- the box: where it stands, what a box of N draws at most is -/
structure Box where
  at_ : Option Addr
  ok : Nat → List V → Prop
def Bx (B : Box) (F H : Hp) (N : Nat) : Prop := ∀ a, B.at_ = some a → F a = none ∧ ∃ vs, H a = some (.lst vs) ∧ B.ok N vs
theorem Bx.keep {B : Box} {F H F' H' : Hp} {N : Nat} (b : Bx B F H N) (g : Gd none F H F' H') : Bx B F' H' N := fun a e => by
  obtain ⟨h1, vs, h2, h3⟩ := b a e
  refine ⟨?_, vs, g.h a _ (fun z => by cases z) h2, h3⟩
  cases q : F' a with
  | none => rfl
  | some o =>
    rcases g.sep a o q with z | z
    · rw [h1] at z; cases z
    · rw [h2] at z; cases z
def noBox : Box := ⟨none, fun _ _ => True⟩
theorem Bx.no {F H : Hp} {N : Nat} : Bx noBox F H N := fun a e => by cases e

/-- an error: its class, its own dict -/
def IsE (K : PySem.W.Frag) (p : Option Addr) (F _H : Hp) (er : Err) (cls : Value) (d : Option Addr) : Prop :=
  cls = .ref (He.ga K er.cls) ∧ ((er.fs = [] ∧ d = none) ∨ ∃ dd ns vs, d = some dd ∧ F dd = some (.xd (ns.zip vs)) ∧ er.fs.map (·.1) = ns ∧ IsL K p F (er.fs.map (·.2)) vs)

/-! ### the judgement -/
/-- what is wanted of an exception -/
def CE (K : PySem.W.Frag) (B : Box) (F H : Hp) (E : Err → Nat → Prop) (Z : XK) : Prop :=
  ∀ er N cls d F2 H2, E er N → Gd B.at_ F H F2 H2 → Bx B F2 H2 N → IsE K B.at_ F2 H2 er cls d → Z cls d H2
/-- what is wanted of the way on: Q, E by the mirror; R of the value; Z of an exception -/
structure Ct (K : PySem.W.Frag) (B : Box) {α : Type} [ToD α] (F H : Hp) (Q : α → Nat → Prop) (E : Err → Nat → Prop) (R : V → Hp → Prop) (Z : XK) : Prop where
  ok : ∀ x N v F2 H2, Q x N → Gd B.at_ F H F2 H2 → Bx B F2 H2 N → Is K B.at_ F2 (toD x) v → R v H2
  ex : CE K B F H E Z
variable {K : PySem.W.Frag} {B : Box}
theorem CE.mono {F H F1 H1 : Hp} {E : Err → Nat → Prop} {Z : XK} (c : CE K B F H E Z) (g : Gd B.at_ F H F1 H1) : CE K B F1 H1 E Z :=
  fun er N cls d F2 H2 q g2 b i => c er N cls d F2 H2 q (g.trans g2) b i
theorem Ct.mono {α : Type} [ToD α] {F H F1 H1 : Hp} {Q : α → Nat → Prop} {E : Err → Nat → Prop} {R : V → Hp → Prop} {Z : XK} (c : Ct K B F H Q E R Z) (g : Gd B.at_ F H F1 H1) : Ct K B F1 H1 Q E R Z :=
  ⟨fun x N v F2 H2 q g2 b i => c.ok x N v F2 H2 q (g.trans g2) b i, c.ex.mono g⟩

/-- e is worth m, wherever F stands -/
structure Ev (X : Cx) (B : Box) {α : Type} [ToD α] (e : Expr) (σ : L2.St) (F : Hp) (m : M α) : Prop where
  run : ∀ (F1 H1 : Hp) (N : Nat) (Q : α → Nat → Prop) (E : Err → Nat → Prop) (R : V → Hp → Prop) (W : WX) (pins : List (Addr × Obj)) (s : Shared),
    Takes X W → Inv X pins σ H1 s → Ex F F1 → Ex F1 H1 → Bx B F1 H1 N → m N Q E → Ct X.K B F1 H1 Q E R (fun c d H => W c d σ H) →
    wpAny (model X.prog X.w) X.A (eval e X.env) (EP X pins σ R) X.xe s
/-- e as a test, whatever its whole is -/
structure EtW (X : Cx) (B : Box) (e : Expr) (σ : L2.St) (F : Hp) (whole : Sem Value) (m : M Bool) : Prop where
  run : ∀ (F1 H1 : Hp) (N : Nat) (Q : Bool → Nat → Prop) (E : Err → Nat → Prop) (R : Bool → Hp → Prop) (W : WX) (pins : List (Addr × Obj)) (s : Shared),
    Takes X W → Inv X pins σ H1 s → Ex F F1 → Ex F1 H1 → Bx B F1 H1 N → m N Q E →
    (∀ x N F2 H2, Q x N → Gd B.at_ F1 H1 F2 H2 → Bx B F2 H2 N → R x H2) → CE X.K B F1 H1 E (fun c d H => W c d σ H) →
    wpAny (model X.prog X.w) X.A (isTrue e X.env whole) (TP X pins σ R) X.xe s
abbrev Et (X : Cx) (B : Box) (e : Expr) (σ : L2.St) (F : Hp) (m : M Bool) : Prop := EtW X B e σ F (eval e X.env) m
/-- arguments, from the left -/
structure EvA (X : Cx) (B : Box) {α : Type} (enc : α → List D) (es : List Expr) (σ : L2.St) (F : Hp) (m : M α) : Prop where
  run : ∀ (F1 H1 : Hp) (N : Nat) (Q : α → Nat → Prop) (E : Err → Nat → Prop) (R : List V → Hp → Prop) (W : WX) (pos : Pos) (pins : List (Addr × Obj)) (s : Shared),
    Takes X W → Inv X pins σ H1 s → Ex F F1 → Ex F1 H1 → Bx B F1 H1 N → m N Q E →
    (∀ x N vs F2 H2, Q x N → Gd B.at_ F1 H1 F2 H2 → Bx B F2 H2 N → IsL X.K B.at_ F2 (enc x) vs → R vs H2) → CE X.K B F1 H1 E (fun c d H => W c d σ H) →
    wpAny (model X.prog X.w) X.A (spliced (backTo pos (starEach es X.env))) (AP X pins σ R) X.xe s
end L3

set_option Elab.async false
set_option linter.all false
set_option maxRecDepth 100000
set_option maxHeartbeats 4000000
/-! The rules of expressions. -/
namespace L3
open PySem PySem.Spec PyProof.Rows L2 ToD
section
variable {X : Cx} {B : Box} {σ : L2.St} {F F1 H1 : Hp} {N : Nat} {E : Err → Nat → Prop} {W : WX} {pins : List (Addr × Obj)} {s : Shared} {α β γ : Type} [ToD α] [ToD β] [ToD γ]
  {e a b : Expr} {m : M α} {m1 : M α} {m2 : M β} {pos : Pos}

/-- what stands behind an expression that was worth m -/
def Got (X : Cx) (B : Box) (σ : L2.St) (pins : List (Addr × Obj)) (F1 H1 : Hp) (Q : α → Nat → Prop) (u : Value) (s' : Shared) : Prop :=
  ∃ (v : V) (H2 : Hp) (x : α) (N2 : Nat) (F2 : Hp), Inv X pins σ H2 s' ∧ RelV v u ∧ Gd B.at_ F1 H1 F2 H2 ∧ Bx B F2 H2 N2 ∧ Is X.K B.at_ F2 (toD x) v ∧ Q x N2
theorem Ev.go {Q : α → Nat → Prop} (h : Ev X B e σ F m) (tk : Takes X W) (I : Inv X pins σ H1 s) (e1 : Ex F F1) (e2 : Ex F1 H1) (bx : Bx B F1 H1 N) (hm : m N Q E) (c : CE X.K B F1 H1 E (fun c d H => W c d σ H)) :
    wpAny (model X.prog X.w) X.A (eval e X.env) (Got X B σ pins F1 H1 Q) X.xe s := by
  refine thn (h.run F1 H1 N Q E (fun v H2 => ∃ x N2 F2, Gd B.at_ F1 H1 F2 H2 ∧ Bx B F2 H2 N2 ∧ Is X.K B.at_ F2 (toD x) v ∧ Q x N2) W pins s tk I e1 e2 bx hm ⟨fun x N v F2 H2 q g b i => ⟨x, N, F2, g, b, i, q⟩, c⟩) fun u s' hu => ?_
  obtain ⟨v, H2, I2, r, x, N2, F2, g, b, i, q⟩ := hu
  exact ⟨v, H2, x, N2, F2, I2, r, g, b, i, q⟩
/-- the end of a rule: a value is there -/
theorem Ct.fin {Q : α → Nat → Prop} {R : V → Hp → Prop} {Z : XK} {F2 H2 : Hp} {x : α} {v : V} {u : Value} (c : Ct X.K B F1 H1 Q E R Z) (I : Inv X pins σ H2 s) (r : RelV v u) (g : Gd B.at_ F1 H1 F2 H2) (bx : Bx B F2 H2 N) (i : Is X.K B.at_ F2 (toD x) v) (q : Q x N) :
    EP X pins σ R u s := ⟨v, H2, I, r, c.ok x N v F2 H2 q g bx i⟩
/-- an expression that makes nothing and is worth x -/
theorem ev_of_pe {t : TE} {x : α} (h : PE X e t) (ht : ∀ F1 H1 (R : V → Hp → Prop), Ex F F1 → Ex F1 H1 → (∀ v, Is X.K B.at_ F1 (toD x) v → R v H1) → t σ H1 R) : Ev X B e σ F (M.pure x) := by
  refine ⟨fun F1 H1 N Q E R W pins s tk I e1 e2 bx hm c => ?_⟩
  exact h.run pins s σ H1 R I (ht F1 H1 R e1 e2 fun v i => c.ok x N v F1 H1 hm (Gd.refl e2) bx i)
theorem ev_var {i : Nat} {n : Str} {v : V} {x : α} (hN : X.N[i]? = some n) (hv : Vis X.env.scope n) (hs : σ[i]? = some (some v)) (hi : Is X.K B.at_ F (toD x) v)
    (hd : (n == ("__debug__" : Str)) = false := by decide) (hcd : (n == ("__classdict__" : Str)) = false := by decide) : Ev X B (.Name n pos) σ F (M.pure x) :=
  ev_of_pe (pe_var hN hv hd hcd) fun F1 H1 R e1 e2 k => ⟨v, hs, k v (hi.mono e1)⟩
theorem ev_int {i : Int} {j : Nat} : Ev X B (.Constant (.int i) j pos) σ F (M.pure i) := ev_of_pe pe_int fun F1 H1 R _ _ k => k _ rfl
theorem ev_bool {i : Bool} {j : Nat} : Ev X B (.Constant (.bool i) j pos) σ F (M.pure i) := ev_of_pe pe_bl fun F1 H1 R _ _ k => k _ rfl
theorem ev_non {j : Nat} : Ev X B (.Constant .none j pos) σ F (M.pure ()) := ev_of_pe pe_non fun F1 H1 R _ _ k => k _ rfl
theorem ev_str {x : Str} {j : Nat} : Ev X B (.Constant (.str x) j pos) σ F (M.pure x) := ev_of_pe pe_str fun F1 H1 R _ _ k => k _ rfl
/-- the same datum under another type -/
theorem ev_as {x : α → β} (h : Ev X B e σ F m) (hx : ∀ y, toD (x y) = toD y) : Ev X B e σ F (M.bind m fun y => M.pure (x y)) := by
  refine ⟨fun F1 H1 N Q E R W pins s tk I e1 e2 bx hm c => ?_⟩
  refine h.run F1 H1 N _ E R W pins s tk I e1 e2 bx hm ⟨fun y N v F2 H2 q g b i => c.ok (x y) N v F2 H2 q g b (by rw [hx]; exact i), c.ex⟩
theorem ev_eq {m' : M α} (h : Ev X B e σ F m) (he : m = m') : Ev X B e σ F m' := he ▸ h
theorem ev_imp {m' : M α} (h : Ev X B e σ F m) (he : ∀ N Q E, m' N Q E → m N Q E) : Ev X B e σ F m' := by
  refine ⟨fun F1 H1 N Q E R W pins s tk I e1 e2 bx hm c => ?_⟩
  exact h.run F1 H1 N Q E R W pins s tk I e1 e2 bx (he _ _ _ hm) c
theorem Ev.mono {F' : Hp} (h : Ev X B e σ F m) (f : Ex F F') : Ev X B e σ F' m := by
  refine ⟨fun F1 H1 N Q E R W pins s tk I e1 e2 bx hm c => ?_⟩
  exact h.run F1 H1 N Q E R W pins s tk I (f.trans e1) e2 bx hm c

/-! ### two operands -/
abbrev R2X := V → V → Hp → VK → XK → Prop
/-- an operator by values; what it raises is wished for where it stands -/
def OpX (X : Cx) (f : Value → Value → Sem Value) (r : R2X) : Prop :=
  ∀ (pins : List (Addr × Obj)) (s : Shared) (σ : L2.St) (H : Hp) (x y : V) (v u : Value) (Q : VK) (W : WX), Takes X W → Inv X pins σ H s → RelV x v → RelV y u → r x y H Q (fun c d H' => W c d σ H') →
    wpAny (model X.prog X.w) X.A (f v u) (EP X pins σ Q) X.xe s
def rX (r : R2) : R2X := fun x y H Q _ => r x y H Q
theorem OpX.of {f : Value → Value → Sem Value} {r : R2} (h : OpR X f r) : OpX X f (rX r) := fun pins s σ H x y v u Q W _ I r1 r2 q => h pins s σ H x y v u Q I r1 r2 q
/-- of the data x and y the operator's reading makes m -/
def OpM (K : PySem.W.Frag) (B : Box) (r : R2X) (x : α) (y : β) (m : M γ) : Prop :=
  ∀ (F H : Hp) (N : Nat) (Q : γ → Nat → Prop) (E : Err → Nat → Prop) (R : V → Hp → Prop) (Z : XK) (v u : V), Ex F H → Bx B F H N → Is K B.at_ F (toD x) v → Is K B.at_ F (toD y) u → m N Q E → Ct K B F H Q E R Z → r v u H R Z
theorem bin2 {ty : Type} {f : Value → Value → Sem Value} {r : R2X} {k : α → β → M γ} {Q : γ → Nat → Prop} {R : V → Hp → Prop} (ho : OpX X f r) (ha : Ev X B a σ F m1) (hb : Ev X B b σ F m2) (hr : ∀ x y, OpM X.K B r x y (k x y))
    (tk : Takes X W) (I : Inv X pins σ H1 s) (e1 : Ex F F1) (e2 : Ex F1 H1) (bx : Bx B F1 H1 N) (hm : (M.bind m1 fun x => M.bind m2 fun y => k x y) N Q E) (c : Ct X.K B F1 H1 Q E R (fun c d H => W c d σ H)) :
    wpAny (model X.prog X.w) X.A (eval a X.env) (fun v s₁ => wpAny (model X.prog X.w) X.A (eval b X.env) (fun u s₂ => wpAny (model X.prog X.w) X.A (f v u) (EP X pins σ R) X.xe s₂) X.xe s₁) X.xe s := by
  refine thn (ha.go tk I e1 e2 bx hm c.ex) fun u s1 ⟨v, H2, x, N2, F2, I2, r2, g2, b2, i2, q2⟩ => ?_
  refine thn (hb.go tk I2 (e1.trans g2.f) g2.sub b2 q2 (c.ex.mono g2)) fun u' s2 ⟨v', H3, y, N3, F3, I3, r3, g3, b3, i3, q3⟩ => ?_
  exact ho pins s2 σ H3 v v' u u' R W tk I3 r2 r3 (hr x y F3 H3 N3 Q E R _ v v' g3.sub b3 (i2.mono g3.f) i3 q3 (c.mono (g2.trans g3)))
theorem ev_op {op : Operator} {r : R2X} {k : α → β → M γ} (ho : OpX X (binaryOp op) r) (ha : Ev X B a σ F m1) (hb : Ev X B b σ F m2) (hr : ∀ x y, OpM X.K B r x y (k x y)) :
    Ev X B (.BinOp a op b pos) σ F (M.bind m1 fun x => M.bind m2 fun y => k x y) := by
  refine ⟨fun F1 H1 N Q E R W pins s tk I e1 e2 bx hm c => ?_⟩
  exact wpAny_BinOp (bin2 (ty := Unit) ho ha hb hr tk I e1 e2 bx hm c)
theorem ev_cmp {op : CmpOp} {r : R2X} {k : α → β → M γ} (ho : OpX X (compareOp op) r) (ha : Ev X B a σ F m1) (hb : Ev X B b σ F m2) (hr : ∀ x y, OpM X.K B r x y (k x y)) (hk : behindInMarks op b = false) :
    Ev X B (.Compare a [op] [b] pos) σ F (M.bind m1 fun x => M.bind m2 fun y => k x y) := by
  refine ⟨fun F1 H1 N Q E R W pins s tk I e1 e2 bx hm c => ?_⟩
  exact wpAny_Compare1 (bin2 (ty := Unit) ho ha hb hr tk I e1 e2 bx hm c) hk
/-- a comparison as a test -/
theorem et_cmp {op : CmpOp} {r : R2X} {k : α → β → M Bool} {whole : Sem Value} (ho : OpX X (compareOp op) r) (ha : Ev X B a σ F m1) (hb : Ev X B b σ F m2) (hr : ∀ x y, OpM X.K B r x y (k x y)) (hk : behindInMarks op b = false) :
    EtW X B (.Compare a [op] [b] pos) σ F whole (M.bind m1 fun x => M.bind m2 fun y => k x y) := by
  refine ⟨fun F1 H1 N Q E R W pins s tk I e1 e2 bx hm c cx => ?_⟩
  refine wpAny_isTrue_Compare1 (thn (bin2 (ty := Unit) (R := fun v H2 => ∃ x N2 F2, v = .bl x ∧ Q x N2 ∧ Gd B.at_ F1 H1 F2 H2 ∧ Bx B F2 H2 N2) ho ha hb hr tk I e1 e2 bx hm ⟨fun x N v F2 H2 q g b i => ⟨x, N, F2, i, q, g, b⟩, cx⟩)
    fun v s1 h1 => thn h1 fun u s2 h2 => thn h2 fun w s3 ⟨v3, H3, I3, r3, x, N2, F2, ev, q, g, b⟩ => ?_) hk
  subst ev
  cases r3
  exact wpAny_truthy_bool ⟨H3, I3, c x N2 F2 H3 q g b⟩
/-- a value that is a bool, as a test -/
theorem et_val {m : M Bool} (h : Ev X B e σ F m) (he : ∀ whole, isTrue e X.env whole = (do let v ← whole; standAt e.pos; holding [v] (truthy v)) := by intro _; rfl) : Et X B e σ F m := by
  refine ⟨fun F1 H1 N Q E R W pins s tk I e1 e2 bx hm c cx => ?_⟩
  refine isTrue_plain (thn (h.go tk I e1 e2 bx hm cx) fun u s1 ⟨v, H2, x, N2, F2, I2, r2, g2, b2, i2, q2⟩ => ?_) (he _)
  have i3 : v = .bl x := i2
  subst i3
  cases r2
  exact wpAny_truthy_bool ⟨H2, I2, c x N2 F2 H2 q2 g2 b2⟩
/-! ### and, or, not -/
theorem EtW.go {m : M Bool} {whole : Sem Value} {Q : Bool → Nat → Prop} (h : EtW X B e σ F whole m) (tk : Takes X W) (I : Inv X pins σ H1 s) (e1 : Ex F F1) (e2 : Ex F1 H1) (bx : Bx B F1 H1 N) (hm : m N Q E) (c : CE X.K B F1 H1 E (fun c d H => W c d σ H)) :
    wpAny (model X.prog X.w) X.A (isTrue e X.env whole) (fun x s' => ∃ (H2 : Hp) (N2 : Nat) (F2 : Hp), Inv X pins σ H2 s' ∧ Gd B.at_ F1 H1 F2 H2 ∧ Bx B F2 H2 N2 ∧ Q x N2) X.xe s := by
  refine thn (h.run F1 H1 N Q E (fun x H2 => ∃ N2 F2, Gd B.at_ F1 H1 F2 H2 ∧ Bx B F2 H2 N2 ∧ Q x N2) W pins s tk I e1 e2 bx hm (fun x N F2 H2 q g b => ⟨N, F2, g, b, q⟩) c) fun u s' hu => ?_
  obtain ⟨H2, I2, N2, F2, g, b, q⟩ := hu
  exact ⟨H2, N2, F2, I2, g, b, q⟩
variable {ma mb : M Bool} {rest : List Expr} {whole : Sem Value}
theorem et_and1 (ha : Et X B a σ F ma) : EtW X B (.BoolOp .And [a] pos) σ F whole ma := by
  refine ⟨fun F1 H1 N Q E R W pins s tk I e1 e2 bx hm c cx => ?_⟩
  refine isTrue_and (thn (ha.go tk I e1 e2 bx hm cx) fun x s1 ⟨H2, N2, F2, I2, g, b, q⟩ => ?_)
  cases x with
  | true => exact isTrue_and_nil ⟨H2, I2, c true N2 F2 H2 q g b⟩
  | false => exact ⟨H2, I2, c false N2 F2 H2 q g b⟩
theorem et_or1 (ha : Et X B a σ F ma) : EtW X B (.BoolOp .Or [a] pos) σ F whole ma := by
  refine ⟨fun F1 H1 N Q E R W pins s tk I e1 e2 bx hm c cx => ?_⟩
  refine isTrue_or (thn (ha.go tk I e1 e2 bx hm cx) fun x s1 ⟨H2, N2, F2, I2, g, b, q⟩ => ?_)
  cases x with
  | false => exact isTrue_or_nil ⟨H2, I2, c false N2 F2 H2 q g b⟩
  | true => exact ⟨H2, I2, c true N2 F2 H2 q g b⟩
theorem et_and (ha : Et X B a σ F ma) (hb : ∀ w, EtW X B (.BoolOp .And (b :: rest) pos) σ F w mb) : EtW X B (.BoolOp .And (a :: b :: rest) pos) σ F whole (M.bind ma fun x => cond x mb (M.pure false)) := by
  refine ⟨fun F1 H1 N Q E R W pins s tk I e1 e2 bx hm c cx => ?_⟩
  refine isTrue_and (thn (ha.go tk I e1 e2 bx hm cx) fun x s1 ⟨H2, N2, F2, I2, g, b, q⟩ => ?_)
  cases x with
  | true => exact (hb whole).run F2 H2 N2 Q E R W pins s1 tk I2 (e1.trans g.f) g.sub b q (fun x N F3 H3 q g3 b3 => c x N F3 H3 q (g.trans g3) b3) (cx.mono g)
  | false => exact ⟨H2, I2, c false N2 F2 H2 q g b⟩
theorem et_or (ha : Et X B a σ F ma) (hb : ∀ w, EtW X B (.BoolOp .Or (b :: rest) pos) σ F w mb) : EtW X B (.BoolOp .Or (a :: b :: rest) pos) σ F whole (M.bind ma fun x => cond x (M.pure true) mb) := by
  refine ⟨fun F1 H1 N Q E R W pins s tk I e1 e2 bx hm c cx => ?_⟩
  refine isTrue_or (thn (ha.go tk I e1 e2 bx hm cx) fun x s1 ⟨H2, N2, F2, I2, g, b, q⟩ => ?_)
  cases x with
  | false => exact (hb whole).run F2 H2 N2 Q E R W pins s1 tk I2 (e1.trans g.f) g.sub b q (fun x N F3 H3 q g3 b3 => c x N F3 H3 q (g.trans g3) b3) (cx.mono g)
  | true => exact ⟨H2, I2, c true N2 F2 H2 q g b⟩
theorem et_not (ha : Et X B a σ F ma) : EtW X B (.UnaryOp .Not a pos) σ F whole (M.bind ma fun x => M.pure (!x)) := by
  refine ⟨fun F1 H1 N Q E R W pins s tk I e1 e2 bx hm c cx => ?_⟩
  refine isTrue_not (thn (ha.go tk I e1 e2 bx hm cx) fun x s1 ⟨H2, N2, F2, I2, g, b, q⟩ => ?_)
  exact ⟨H2, I2, c (!x) N2 F2 H2 q g b⟩
/-! as values -/
theorem ev_one {op : BoolOp} (h : Ev X B a σ F m) : Ev X B (.BoolOp op [a] pos) σ F m := by
  refine ⟨fun F1 H1 N Q E R W pins s tk I e1 e2 bx hm c => ?_⟩
  exact BoolOp_one (h.run F1 H1 N Q E R W pins s tk I e1 e2 bx hm c)
theorem ev_and (ha : Ev X B a σ F ma) (hb : Ev X B (.BoolOp .And (b :: rest) pos) σ F mb) : Ev X B (.BoolOp .And (a :: b :: rest) pos) σ F (M.bind ma fun x => cond x mb (M.pure false)) := by
  refine ⟨fun F1 H1 N Q E R W pins s tk I e1 e2 bx hm c => ?_⟩
  refine BoolOp_and (thn (ha.go tk I e1 e2 bx hm c.ex) fun u s1 ⟨v, H2, x, N2, F2, I2, r2, g2, b2, i2, q2⟩ => ?_)
  have i3 : v = .bl x := i2
  subst i3
  cases r2
  refine wpAny_truthy_bool ?_
  cases x with
  | true => exact hb.run F2 H2 N2 Q E R W pins s1 tk I2 (e1.trans g2.f) g2.sub b2 q2 (c.mono g2)
  | false => exact ⟨.bl false, H2, I2, rfl, c.ok false N2 _ F2 H2 q2 g2 b2 rfl⟩
theorem ev_or (ha : Ev X B a σ F ma) (hb : Ev X B (.BoolOp .Or (b :: rest) pos) σ F mb) : Ev X B (.BoolOp .Or (a :: b :: rest) pos) σ F (M.bind ma fun x => cond x (M.pure true) mb) := by
  refine ⟨fun F1 H1 N Q E R W pins s tk I e1 e2 bx hm c => ?_⟩
  refine BoolOp_or (thn (ha.go tk I e1 e2 bx hm c.ex) fun u s1 ⟨v, H2, x, N2, F2, I2, r2, g2, b2, i2, q2⟩ => ?_)
  have i3 : v = .bl x := i2
  subst i3
  cases r2
  refine wpAny_truthy_bool ?_
  cases x with
  | false => exact hb.run F2 H2 N2 Q E R W pins s1 tk I2 (e1.trans g2.f) g2.sub b2 q2 (c.mono g2)
  | true => exact ⟨.bl true, H2, I2, rfl, c.ok true N2 _ F2 H2 q2 g2 b2 rfl⟩
theorem ev_not (ha : Ev X B a σ F ma) : Ev X B (.UnaryOp .Not a pos) σ F (M.bind ma fun x => M.pure (!x)) := by
  refine ⟨fun F1 H1 N Q E R W pins s tk I e1 e2 bx hm c => ?_⟩
  refine UnaryOp_ (thn (ha.go tk I e1 e2 bx hm c.ex) fun u s1 ⟨v, H2, x, N2, F2, I2, r2, g2, b2, i2, q2⟩ => ?_)
  have i3 : v = .bl x := i2
  subst i3
  cases r2
  exact not_of (wpAny_truthy_bool ⟨.bl (!x), H2, I2, rfl, c.ok (!x) N2 _ F2 H2 q2 g2 b2 rfl⟩)
theorem ev_if {ct : Expr} {mc : M Bool} {n1 n2 : M α} (hc : Et X B ct σ F mc) (ha : Ev X B a σ F n1) (hb : Ev X B b σ F n2) : Ev X B (.IfExp ct a b pos) σ F (M.bind mc fun x => cond x n1 n2) := by
  refine ⟨fun F1 H1 N Q E R W pins s tk I e1 e2 bx hm c => ?_⟩
  refine wpAny_IfExp (thn (hc.go tk I e1 e2 bx hm c.ex) fun x s1 ⟨H2, N2, F2, I2, g, b, q⟩ => ?_)
  cases x with
  | true => exact ha.run F2 H2 N2 Q E R W pins s1 tk I2 (e1.trans g.f) g.sub b q (c.mono g)
  | false => exact hb.run F2 H2 N2 Q E R W pins s1 tk I2 (e1.trans g.f) g.sub b q (c.mono g)
end
end L3

set_option Elab.async false
set_option linter.all false
set_option maxRecDepth 100000
set_option maxHeartbeats 4000000
/-! From the judgement to the layer's readings and back; ints, displays, calls. -/
namespace L3
open PySem PySem.Spec PyProof.Rows L2 ToD
section
variable {X : Cx} {B : Box} {σ : L2.St} {F F1 H1 : Hp} {N : Nat} {E : Err → Nat → Prop} {W : WX} {pins : List (Addr × Obj)} {s : Shared} {α β γ : Type} [ToD α] [ToD β] [ToD γ]
  {e a b : Expr} {m : M α} {m1 : M α} {m2 : M β} {pos : Pos}
def tEv (X : Cx) (B : Box) (σ : L2.St) (F : Hp) (m : M α) : TE := fun σ' H1 R => σ' = σ ∧ ∃ F1 N Q E W, Takes X W ∧ Ex F F1 ∧ Ex F1 H1 ∧ Bx B F1 H1 N ∧ m N Q E ∧ Ct X.K B F1 H1 Q E R (fun c d H => W c d σ H)
theorem Ev.pe (h : Ev X B e σ F m) : PE X e (tEv X B σ F m) := by
  refine ⟨fun pins s σ' H R I ht => ?_⟩
  obtain ⟨es, F1, N, Q, E, W, tk, e1, e2, bx, hm, c⟩ := ht
  subst es
  exact h.run F1 H N Q E R W pins s tk I e1 e2 bx hm c
theorem tEv_mk {Q : α → Nat → Prop} {R : V → Hp → Prop} (tk : Takes X W) (e1 : Ex F F1) (e2 : Ex F1 H1) (bx : Bx B F1 H1 N) (hm : m N Q E) (cx : CE X.K B F1 H1 E (fun c d H => W c d σ H))
    (k : ∀ x N2 v F2 H2, Q x N2 → Gd B.at_ F1 H1 F2 H2 → Bx B F2 H2 N2 → Is X.K B.at_ F2 (toD x) v → R v H2) : tEv X B σ F m σ H1 R :=
  ⟨rfl, F1, N, Q, E, W, tk, e1, e2, bx, hm, k, cx⟩
def tEt (X : Cx) (B : Box) (σ : L2.St) (F : Hp) (m : M Bool) : TT := fun σ' H1 R => σ' = σ ∧ ∃ F1 N Q E W, Takes X W ∧ Ex F F1 ∧ Ex F1 H1 ∧ Bx B F1 H1 N ∧ m N Q E ∧ (∀ x N F2 H2, Q x N → Gd B.at_ F1 H1 F2 H2 → Bx B F2 H2 N → R x H2) ∧ CE X.K B F1 H1 E (fun c d H => W c d σ H)
theorem EtW.pt {m : M Bool} (h : Et X B e σ F m) : PT X e (tEt X B σ F m) := by
  refine ⟨fun pins s σ' H R I ht => ?_⟩
  obtain ⟨es, F1, N, Q, E, W, tk, e1, e2, bx, hm, c, cx⟩ := ht
  subst es
  exact h.run F1 H N Q E R W pins s tk I e1 e2 bx hm c cx
theorem tEt_mk {m : M Bool} {Q : Bool → Nat → Prop} {R : Bool → Hp → Prop} (tk : Takes X W) (e1 : Ex F F1) (e2 : Ex F1 H1) (bx : Bx B F1 H1 N) (hm : m N Q E) (cx : CE X.K B F1 H1 E (fun c d H => W c d σ H))
    (k : ∀ x N2 F2 H2, Q x N2 → Gd B.at_ F1 H1 F2 H2 → Bx B F2 H2 N2 → R x H2) : tEt X B σ F m σ H1 R :=
  ⟨rfl, F1, N, Q, E, W, tk, e1, e2, bx, hm, k, cx⟩
/-! ### arguments -/
theorem eva_nil : EvA X B (fun _ : Unit => []) [] σ F (M.pure ()) := by
  refine ⟨fun F1 H1 N Q E R W pos pins s tk I e1 e2 bx hm k cx => ?_⟩
  exact pa_nil.run pos pins s σ H1 R I (k () N [] F1 H1 hm (Gd.refl e2) bx rfl)
section
variable {A : Type} {enc : A → List D} {es : List Expr} {mr : M A}
def tEvA (X : Cx) (B : Box) (enc : A → List D) (σ : L2.St) (F : Hp) (m : M A) : TA := fun σ' H1 R => σ' = σ ∧ ∃ F1 N Q E W, Takes X W ∧ Ex F F1 ∧ Ex F1 H1 ∧ Bx B F1 H1 N ∧ m N Q E ∧
  (∀ x N vs F2 H2, Q x N → Gd B.at_ F1 H1 F2 H2 → Bx B F2 H2 N → IsL X.K B.at_ F2 (enc x) vs → R vs H2) ∧ CE X.K B F1 H1 E (fun c d H => W c d σ H)
theorem EvA.pa (h : EvA X B enc es σ F mr) : PA X es (tEvA X B enc σ F mr) := by
  refine ⟨fun pos pins s σ' H R I ht => ?_⟩
  obtain ⟨e0, F1, N, Q, E, W, tk, e1, e2, bx, hm, c, cx⟩ := ht
  subst e0
  exact h.run F1 H N Q E R W pos pins s tk I e1 e2 bx hm c cx
theorem tEvA_mk {Q : A → Nat → Prop} {R : List V → Hp → Prop} (tk : Takes X W) (e1 : Ex F F1) (e2 : Ex F1 H1) (bx : Bx B F1 H1 N) (hm : mr N Q E) (cx : CE X.K B F1 H1 E (fun c d H => W c d σ H))
    (k : ∀ x N2 vs F2 H2, Q x N2 → Gd B.at_ F1 H1 F2 H2 → Bx B F2 H2 N2 → IsL X.K B.at_ F2 (enc x) vs → R vs H2) : tEvA X B enc σ F mr σ H1 R :=
  ⟨rfl, F1, N, Q, E, W, tk, e1, e2, bx, hm, k, cx⟩
theorem eva_cons {enc' : α × A → List D} (ha : Ev X B e σ F m1) (hr : EvA X B enc es σ F mr) (hs : starEach (e :: es) X.env = (false, eval e X.env) :: starEach es X.env := by rfl) (henc : ∀ p, enc' p = toD p.1 :: enc p.2 := by intro _; rfl) :
    EvA X B enc' (e :: es) σ F (M.bind m1 fun x => M.bind mr fun y => M.pure (x, y)) := by
  refine ⟨fun F1 H1 N Q E R W pos pins s tk I e1 e2 bx hm k cx => ?_⟩
  refine (pa_cons ha.pe hr.pa hs).run pos pins s σ H1 R I (tEv_mk tk e1 e2 bx hm cx fun x N2 v F2 H2 q g b i => tEvA_mk tk (e1.trans g.f) g.sub b q (cx.mono g) fun y N3 vs F3 H3 q3 g3 b3 i3 => ?_)
  exact k (x, y) N3 (v :: vs) F3 H3 q3 (g.trans g3) b3 (by rw [henc]; exact ⟨v, vs, rfl, i.mono g3.f, i3⟩)
/-- items of one type -/
abbrev encL [ToD α] : List α → List D := fun xs => xs.map toD
theorem evl_nil : EvA X B (encL (α := α)) [] σ F (M.pure []) := by
  refine ⟨fun F1 H1 N Q E R W pos pins s tk I e1 e2 bx hm k cx => ?_⟩
  exact pa_nil.run pos pins s σ H1 R I (k [] N [] F1 H1 hm (Gd.refl e2) bx rfl)
theorem evl_cons {ml : M (List α)} (ha : Ev X B e σ F m1) (hr : EvA X B (encL (α := α)) es σ F ml) (hs : starEach (e :: es) X.env = (false, eval e X.env) :: starEach es X.env := by rfl) :
    EvA X B (encL (α := α)) (e :: es) σ F (M.bind m1 fun x => M.bind ml fun y => M.pure (x :: y)) := by
  refine ⟨fun F1 H1 N Q E R W pos pins s tk I e1 e2 bx hm k cx => ?_⟩
  refine (pa_cons ha.pe hr.pa hs).run pos pins s σ H1 R I (tEv_mk tk e1 e2 bx hm cx fun x N2 v F2 H2 q g b i => tEvA_mk tk (e1.trans g.f) g.sub b q (cx.mono g) fun y N3 vs F3 H3 q3 g3 b3 i3 => ?_)
  exact k (x :: y) N3 (v :: vs) F3 H3 q3 (g.trans g3) b3 ⟨v, vs, rfl, i.mono g3.f, i3⟩
/-- [a, b, ..] -/
theorem ev_lst {ml : M (List α)} (h : EvA X B (encL (α := α)) es σ F ml) (hz : ∀ N Q E, ml N Q E → ml N (fun xs N => xs.length ≤ 1000 ∧ Q xs N) E) : Ev X B (.List es pos) σ F ml := by
  refine ⟨fun F1 H1 N Q E R W pins s tk I e1 e2 bx hm c => ?_⟩
  refine (pe_lst h.pa).run pins s σ H1 R I (tEvA_mk tk e1 e2 bx (hz _ _ _ hm) c.ex fun xs N2 vs F2 H2 q g b i => ?_)
  refine ⟨?_, fun p np => ?_⟩
  · rw [i.length, List.length_map, sizeLine_eq]
    omega
  · have g2 : Gd B.at_ F2 H2 (upd F2 p (.lst vs)) (upd H2 p (.lst vs)) := Gd.new g.sub np
    refine c.ok xs N2 _ _ _ q.2 (g.trans g2) ?_ ⟨p, vs, rfl, upd_same, i.mono g2.f⟩
    exact fun z hz' => by
      obtain ⟨h1, ws, h2, h3⟩ := b z hz'
      exact ⟨by rw [upd_ne (ne_of_none h2 np)]; exact h1, ws, by rw [upd_ne (ne_of_none h2 np)]; exact h2, h3⟩
end
theorem Bx.new {F H : Hp} {p : Addr} {o : HO} (b : Bx B F H N) (np : H p = none) : Bx B (upd F p o) (upd H p o) N := fun z hz' => by
  obtain ⟨h1, ws, h2, h3⟩ := b z hz'
  exact ⟨by rw [upd_ne (ne_of_none h2 np)]; exact h1, ws, by rw [upd_ne (ne_of_none h2 np)]; exact h2, h3⟩
/-- (a, b) -/
theorem ev_pair {k1 : Nat} (ha : Ev X B a σ F m1) (hb : Ev X B b σ F m2) (hs : starEach (a :: [b]) X.env = (false, eval a X.env) :: starEach [b] X.env := by rfl) (hs2 : starEach (b :: []) X.env = (false, eval b X.env) :: starEach [] X.env := by rfl) :
    Ev X B (.Tuple [a, b] k1 pos) σ F (M.bind m1 fun x => M.bind m2 fun y => M.pure (x, y)) := by
  refine ⟨fun F1 H1 N Q E R W pins s tk I e1 e2 bx hm c => ?_⟩
  refine (pe_tup (pa_cons ha.pe (pa_cons hb.pe pa_nil hs2) hs)).run pins s σ H1 R I (tEv_mk tk e1 e2 bx hm c.ex fun x N2 v F2 H2 q g b i => tEv_mk tk (e1.trans g.f) g.sub b q (c.ex.mono g) fun y N3 u F3 H3 q3 g3 b3 i3 => ?_)
  refine ⟨by show 2 ≤ sizeLine; rw [sizeLine_eq]; decide, fun p np => ?_⟩
  have g2 : Gd B.at_ F3 H3 (upd F3 p (.tup [v, u])) (upd H3 p (.tup [v, u])) := Gd.new g3.sub np
  exact c.ok (x, y) N3 _ _ _ q3 (g.trans (g3.trans g2)) (b3.new np) ⟨p, [v, u], rfl, upd_same, v, [u], rfl, (i.mono g3.f).mono g2.f, u, [], rfl, i3.mono g2.f, rfl⟩

/-! ### ints -/
section
variable {f : Int → Int → Int} {p : Int → Int → Bool} {C : Int → Int → Prop}
theorem opm_I0 : ∀ x y : Int, OpM X.K B (rX (rI0 fun i j => .int (f i j))) x y (M.pure (f x y)) := fun x y F H N Q E R Z v u e b i1 i2 q c =>
  ⟨x, y, i1, i2, c.ok (f x y) N _ F H q (Gd.refl e) b rfl⟩
theorem opm_I : ∀ x y : Int, OpM X.K B (rX (rI C fun i j => .int (f i j))) x y (M.ask (C x y) (M.pure (f x y))) := fun x y F H N Q E R Z v u e b i1 i2 q c =>
  ⟨x, y, i1, i2, q.1, c.ok (f x y) N _ F H q.2 (Gd.refl e) b rfl⟩
theorem opm_B0 : ∀ x y : Int, OpM X.K B (rX (rI0 fun i j => .bl (p i j))) x y (M.pure (p x y)) := fun x y F H N Q E R Z v u e b i1 i2 q c =>
  ⟨x, y, i1, i2, c.ok (p x y) N _ F H q (Gd.refl e) b rfl⟩
end
theorem ev_add {m1 m2 : M Int} (ha : Ev X B a σ F m1) (hb : Ev X B b σ F m2) : Ev X B (.BinOp a .Add b pos) σ F (M.bind m1 fun x => M.bind m2 fun y => M.pure (x + y)) := ev_op (.of op_add) ha hb opm_I0
theorem ev_sub {m1 m2 : M Int} (ha : Ev X B a σ F m1) (hb : Ev X B b σ F m2) : Ev X B (.BinOp a .Sub b pos) σ F (M.bind m1 fun x => M.bind m2 fun y => M.pure (x - y)) := ev_op (.of op_sub) ha hb opm_I0
theorem ev_mul {m1 m2 : M Int} (ha : Ev X B a σ F m1) (hb : Ev X B b σ F m2) : Ev X B (.BinOp a .Mult b pos) σ F (M.bind m1 fun x => M.bind m2 fun y => M.ask (CMulW x y) (M.pure (x * y))) := ev_op (.of op_mulW) ha hb opm_I
theorem ev_mod {m1 m2 : M Int} (ha : Ev X B a σ F m1) (hb : Ev X B b σ F m2) : Ev X B (.BinOp a .Mod b pos) σ F (M.bind m1 fun x => M.bind m2 fun y => M.ask (y ≠ 0) (M.pure (x.fmod y))) := ev_op (.of op_modN) ha hb opm_I
/-- // of any two whole numbers, the divisor below 2 ^ 9000 in size -/
def CFd (_ j : Int) : Prop := j ≠ 0 ∧ j.natAbs.log2 < 9000
theorem op_fd : OpR X (binaryOp .FloorDiv) (rI CFd fun i j => .int (i.fdiv j)) := opI fun _ _ _ _ _ _ _ hc q => floordiv_int hc.1 q (.inl (PyProof.noPylong_of_log2 hc.2))
theorem ev_fdiv {m1 m2 : M Int} (ha : Ev X B a σ F m1) (hb : Ev X B b σ F m2) : Ev X B (.BinOp a .FloorDiv b pos) σ F (M.bind m1 fun x => M.bind m2 fun y => M.ask (CFd x y) (M.pure (x.fdiv y))) := ev_op (.of op_fd) ha hb opm_I
theorem ev_pow {m1 m2 : M Int} (ha : Ev X B a σ F m1) (hb : Ev X B b σ F m2) : Ev X B (.BinOp a .Pow b pos) σ F (M.bind m1 fun x => M.bind m2 fun y => M.ask (CPow x y) (M.pure (x ^ y.toNat))) := ev_op (.of op_pow) ha hb opm_I
section
variable {m1 m2 : M Int} {whole : Sem Value}
theorem ev_lt (ha : Ev X B a σ F m1) (hb : Ev X B b σ F m2) : Ev X B (.Compare a [.Lt] [b] pos) σ F (M.bind m1 fun x => M.bind m2 fun y => M.pure (decide (x < y))) := ev_cmp (.of op_lt) ha hb opm_B0 (nomark _)
theorem ev_le (ha : Ev X B a σ F m1) (hb : Ev X B b σ F m2) : Ev X B (.Compare a [.LtE] [b] pos) σ F (M.bind m1 fun x => M.bind m2 fun y => M.pure (decide (x ≤ y))) := ev_cmp (.of op_le) ha hb opm_B0 (nomark _)
theorem ev_gt (ha : Ev X B a σ F m1) (hb : Ev X B b σ F m2) : Ev X B (.Compare a [.Gt] [b] pos) σ F (M.bind m1 fun x => M.bind m2 fun y => M.pure (decide (y < x))) := ev_cmp (.of op_gt) ha hb opm_B0 (nomark _)
theorem ev_ge (ha : Ev X B a σ F m1) (hb : Ev X B b σ F m2) : Ev X B (.Compare a [.GtE] [b] pos) σ F (M.bind m1 fun x => M.bind m2 fun y => M.pure (decide (y ≤ x))) := ev_cmp (.of op_ge) ha hb opm_B0 (nomark _)
theorem et_lt (ha : Ev X B a σ F m1) (hb : Ev X B b σ F m2) : EtW X B (.Compare a [.Lt] [b] pos) σ F whole (M.bind m1 fun x => M.bind m2 fun y => M.pure (decide (x < y))) := et_cmp (.of op_lt) ha hb opm_B0 (nomark _)
theorem et_le (ha : Ev X B a σ F m1) (hb : Ev X B b σ F m2) : EtW X B (.Compare a [.LtE] [b] pos) σ F whole (M.bind m1 fun x => M.bind m2 fun y => M.pure (decide (x ≤ y))) := et_cmp (.of op_le) ha hb opm_B0 (nomark _)
theorem et_gt (ha : Ev X B a σ F m1) (hb : Ev X B b σ F m2) : EtW X B (.Compare a [.Gt] [b] pos) σ F whole (M.bind m1 fun x => M.bind m2 fun y => M.pure (decide (y < x))) := et_cmp (.of op_gt) ha hb opm_B0 (nomark _)
theorem et_ge (ha : Ev X B a σ F m1) (hb : Ev X B b σ F m2) : EtW X B (.Compare a [.GtE] [b] pos) σ F whole (M.bind m1 fun x => M.bind m2 fun y => M.pure (decide (y ≤ x))) := et_cmp (.of op_ge) ha hb opm_B0 (nomark _)
end
/-! ### == of plain values -/
class Scal (α : Type) [ToD α] [DecidableEq α] : Prop where
  eq : ∀ (K : PySem.W.Frag) (p : Option Addr) (F : Hp) (x y : α) (v u : V), Is K p F (toD x) v → Is K p F (toD y) u → scal v u = true ∧ decide (v = u) = decide (x = y)
instance : Scal Int := ⟨fun K p F x y v u h1 h2 => by
  have a : v = .int x := h1
  have b : u = .int y := h2
  subst a b
  exact ⟨rfl, by by_cases e : x = y <;> simp [e]⟩⟩
instance : Scal Bool := ⟨fun K p F x y v u h1 h2 => by
  have a : v = .bl x := h1
  have b : u = .bl y := h2
  subst a b
  exact ⟨rfl, by by_cases e : x = y <;> simp [e]⟩⟩
instance : Scal Str := ⟨fun K p F x y v u h1 h2 => by
  have a : v = .str x := h1
  have b : u = .str y := h2
  subst a b
  exact ⟨rfl, by by_cases e : x = y <;> simp [e]⟩⟩
theorem opm_eq [DecidableEq α] [Scal α] : ∀ x y : α, OpM X.K B (rX rEq) x y (M.pure (decide (x = y))) := fun x y F H N Q E R Z v u e b i1 i2 q c => by
  obtain ⟨h1, h2⟩ := Scal.eq X.K B.at_ F x y v u i1 i2
  exact ⟨h1, by rw [h2]; exact c.ok (decide (x = y)) N _ F H q (Gd.refl e) b rfl⟩
theorem opm_ne [DecidableEq α] [Scal α] : ∀ x y : α, OpM X.K B (rX rNe) x y (M.pure (!decide (x = y))) := fun x y F H N Q E R Z v u e b i1 i2 q c => by
  obtain ⟨h1, h2⟩ := Scal.eq X.K B.at_ F x y v u i1 i2
  exact ⟨h1, by rw [h2]; exact c.ok (!decide (x = y)) N _ F H q (Gd.refl e) b rfl⟩
section
variable [DecidableEq α] [Scal α] {m1 m2 : M α} {whole : Sem Value}
theorem ev_eqS (ha : Ev X B a σ F m1) (hb : Ev X B b σ F m2) : Ev X B (.Compare a [.Eq] [b] pos) σ F (M.bind m1 fun x => M.bind m2 fun y => M.pure (decide (x = y))) := ev_cmp (.of op_eq) ha hb opm_eq (nomark _)
theorem ev_neS (ha : Ev X B a σ F m1) (hb : Ev X B b σ F m2) : Ev X B (.Compare a [.NotEq] [b] pos) σ F (M.bind m1 fun x => M.bind m2 fun y => M.pure (!decide (x = y))) := ev_cmp (.of op_ne) ha hb opm_ne (nomark _)
theorem et_eqS (ha : Ev X B a σ F m1) (hb : Ev X B b σ F m2) : EtW X B (.Compare a [.Eq] [b] pos) σ F whole (M.bind m1 fun x => M.bind m2 fun y => M.pure (decide (x = y))) := et_cmp (.of op_eq) ha hb opm_eq (nomark _)
theorem et_neS (ha : Ev X B a σ F m1) (hb : Ev X B b σ F m2) : EtW X B (.Compare a [.NotEq] [b] pos) σ F whole (M.bind m1 fun x => M.bind m2 fun y => M.pure (!decide (x = y))) := et_cmp (.of op_ne) ha hb opm_ne (nomark _)
end
theorem ev_neg {m : M Int} (ha : Ev X B a σ F m) : Ev X B (.UnaryOp .USub a pos) σ F (M.bind m fun x => M.pure (-x)) := by
  refine ⟨fun F1 H1 N Q E R W pins s tk I e1 e2 bx hm c => ?_⟩
  refine (pe_un un_neg ha.pe).run pins s σ H1 R I (tEv_mk tk e1 e2 bx hm c.ex fun x N2 v F2 H2 q g b i => ?_)
  exact ⟨x, i, c.ok (-x) N2 _ F2 H2 q g b rfl⟩

/-! ### calls -/
/-- a def's promise, by its mirror -/
def spM (K : PySem.W.Frag) (B : Box) {A : Type} (enc : A → List D) (mir : A → M α) : Sp := fun vs H R Z =>
  ∃ (F : Hp) (N : Nat) (x : A) (Q : α → Nat → Prop) (E : Err → Nat → Prop), Ex F H ∧ Bx B F H N ∧ IsL K B.at_ F (enc x) vs ∧ mir x N Q E ∧ Ct K B F H Q E R Z
/-- a built-in's, by values -/
def CallM (K : PySem.W.Frag) (B : Box) {A : Type} (enc : A → List D) (r : List V → Hp → VK → Prop) (k : A → M α) : Prop :=
  ∀ (x : A) (F H : Hp) (N : Nat) (Q : α → Nat → Prop) (E : Err → Nat → Prop) (R : V → Hp → Prop) (Z : XK) (vs : List V), Ex F H → Bx B F H N → IsL K B.at_ F (enc x) vs → k x N Q E → Ct K B F H Q E R Z → r vs H R
section
variable {A : Type} {enc : A → List D} {es : List Expr} {mr : M A} {mir : A → M α} {x : Str} {p : Pos} {id T : String} {r : List V → Hp → VK → Prop}
theorem ev_callB (hc : CallR X (.builtin id) r) (hg : Gl X x) (hm : X.mg x = none) (hv : bootBuiltins x = some (.builtin id)) (ha : EvA X B enc (e :: es) σ F mr) (hk : CallM X.K B enc r mir)
    (hn : x ≠ "__name__" := by decide) (hdb : (x == ("__debug__" : Str)) = false := by decide)
    (he : starEach (e :: es) X.env = (false, eval e X.env) :: starEach es X.env := by rfl) (hpl : (backTo pos (starEach es X.env)).any (·.1) = false := by rfl) : Ev X B (.Call (.Name x p) (e :: es) [] pos) σ F (M.bind mr mir) := by
  refine ⟨fun F1 H1 N Q E R W pins s tk I e1 e2 bx hm' c => ?_⟩
  exact (pe_callB hc hg hm hv ha.pa hn hdb he hpl).run pins s σ H1 R I (tEvA_mk tk e1 e2 bx hm' c.ex fun x N2 vs F2 H2 q g b i => hk x F2 H2 N2 Q E R _ vs g.sub b i q (c.mono g))
theorem ev_callTy (hc : CallR X (.type T) r) (hg : Gl X x) (hm : X.mg x = none) (hv : bootBuiltins x = some (.type T)) (ha : EvA X B enc (e :: es) σ F mr) (hk : CallM X.K B enc r mir)
    (hn : x ≠ "__name__" := by decide) (hdb : (x == ("__debug__" : Str)) = false := by decide)
    (he : starEach (e :: es) X.env = (false, eval e X.env) :: starEach es X.env := by rfl) (hpl : (backTo pos (starEach es X.env)).any (·.1) = false := by rfl) : Ev X B (.Call (.Name x p) (e :: es) [] pos) σ F (M.bind mr mir) := by
  refine ⟨fun F1 H1 N Q E R W pins s tk I e1 e2 bx hm' c => ?_⟩
  exact (pe_callTy hc hg hm hv ha.pa hn hdb he hpl).run pins s σ H1 R I (tEvA_mk tk e1 e2 bx hm' c.ex fun x N2 vs F2 H2 q g b i => hk x F2 H2 N2 Q E R _ vs g.sub b i q (c.mono g))
/-- the callee runs: what it raises is wished for at these slots -/
theorem run_sp {k : Nat} {f : Addr} {fd : FuncData} {ps : List Str} {sp : Sp} {H : Hp} {R : VK} {us ds : List Value} {vs dvs : List V} (Fn : FnOk X.prog X.w X.K X.mg X.base (L2.CX X.prog X.w) k f fd ps sp) (hr : Room k X.A) (hb : Binds X.K fd ps ds) (hd : Vals dvs ds)
    (tk : Takes X W) (I : Inv X pins σ H s) (r : Vals vs us) (h : sp (vs ++ dvs) H R (fun c d H' => W c d σ H')) : wpAny (model X.prog X.w) X.A (call (.ref f) us) (EP X pins σ R) X.xe s := by
  have r2 : Vals (vs ++ dvs) (us ++ ds) := r.append hd
  have hl : (us ++ ds).length = ps.length := by rw [← r2.length]; exact Fn.len _ _ _ _ h
  refine wpAny_call (codeAny_mono (Fn.run X.A X.stack s H ⟨us, []⟩ (us ++ ds) (vs ++ dvs) R _ hr I.env0 (hb s us I.kIn hl) r2 h) fun r s' hq => ?_)
  cases r with
  | error e => exact tk _ _ (XE.of_call I (fun _ _ _ h => h) hq)
  | ok fl =>
    cases fl with
    | ret u => exact I.after hq
    | next => exact False.elim hq
    | brk => exact False.elim hq
    | cont => exact False.elim hq
theorem ev_call {k : Nat} {f : Addr} {fd : FuncData} {ps : List Str} (Fn : FnOk X.prog X.w X.K X.mg X.base (L2.CX X.prog X.w) k f fd ps (spM X.K B enc mir)) (hr : Room k X.A) (hb : Binds X.K fd ps []) (hg : Gl X x) (hm : X.mg x = some (.ref f))
    (hk : PySem.W.keepIn X.K (.ref f) = true) (ha : EvA X B enc (e :: es) σ F mr) (hdb : (x == ("__debug__" : Str)) = false := by decide) (he : starEach (e :: es) X.env = (false, eval e X.env) :: starEach es X.env := by rfl)
    (hpl : (backTo pos (starEach es X.env)).any (·.1) = false := by rfl) : Ev X B (.Call (.Name x p) (e :: es) [] pos) σ F (M.bind mr mir) := by
  refine ⟨fun F1 H1 N Q E R W pins s tk I e1 e2 bx hm' c => ?_⟩
  refine wpAny_Call_Name_kw (ld_glob I hg hm ?_ hdb)
  refine PySem.W.callWith_K (h₀ := X.base) I.ok.mod.kin hk (thn (ha.pa.run pos pins s σ H1 (fun vs H2 => spM X.K B enc mir (vs ++ []) H2 R (fun c d H' => W c d σ H')) I (tEvA_mk tk e1 e2 bx hm' c.ex fun x N2 vs F2 H2 q g b i => ?_)) fun us s1 ⟨vs, H2, I2, r2, q2⟩ => ⟨I2.kIn, ?_⟩) he hpl
  · rw [List.append_nil]
    exact ⟨F2, N2, x, Q, E, g.sub, b, i, q, c.mono g⟩
  · exact run_sp Fn hr hb .nil tk I2 r2 q2
end
end
end L3

set_option Elab.async false
set_option linter.all false
set_option maxRecDepth 100000
set_option maxHeartbeats 4000000
/-! Statements, loops, defs. -/
namespace L3
open PySem PySem.Spec PyProof.Rows L2 ToD
/-! ### loops in the monad, the way on handed in -/
namespace M
variable {α S ρ : Type}
def whileK (c : S → M Bool) (body : S → (S → M ρ) → M ρ) (k : S → M ρ) : Nat → S → M ρ
  | 0, _ => bad
  | n + 1, st => bind (c st) fun b => cond b (body st (whileK c body k n)) (k st)
def forK (body : α → S → (S → M ρ) → M ρ) (k : S → M ρ) : List α → S → M ρ
  | [], st => k st
  | x :: xs, st => body x st (forK body k xs)
end M
/-- where one stands: what exceptions are taken for, the frozen part, the box, what the def's end wants -/
structure Cf (X : Cx) (B : Box) {ρ : Type} [ToD ρ] (F H : Hp) (N : Nat) (Q : ρ → Nat → Prop) (E : Err → Nat → Prop) (R : V → Hp → Prop) (Z : XK) : Prop where
  tk : Takes X (fun c d _ H => Z c d H)
  e : Ex F H
  b : Bx B F H N
  c : Ct X.K B F H Q E R Z
section
variable {X : Cx} {B : Box} {σ : L2.St} {F H F1 H1 : Hp} {N N1 : Nat} {ρ α β : Type} [ToD ρ] [ToD α] [ToD β] {Q : ρ → Nat → Prop} {E : Err → Nat → Prop} {R : V → Hp → Prop} {Z : XK} {D : Ends}
  {e a b : Expr} {m : M α} {pos p1 : Pos} {rest : List Stmt}
theorem Cf.on (cf : Cf X B F H N Q E R Z) (g : Gd B.at_ F H F1 H1) (b : Bx B F1 H1 N1) : Cf X B F1 H1 N1 Q E R Z := ⟨cf.tk, g.sub, b, cf.c.mono g⟩
/-- the block from here -/
structure Sx (X : Cx) (sts : List Stmt) (σ : L2.St) (H : Hp) (D : Ends) : Prop where
  run : ∀ (pins : List (Addr × Obj)) (s : Shared), Inv X pins σ H s → wpAny (model X.prog X.w) X.A (execs sts X.env) (SP X pins D) X.xe s
def tSx (X : Cx) (sts : List Stmt) : TS := fun D σ H => Sx X sts σ H D
theorem tSx_pss (sts : List Stmt) : PSs X sts (tSx X sts) := ⟨fun pins s σ H D I h => h.run pins s I⟩
theorem sx_nil (h : D.nx σ H) : Sx X [] σ H D := ⟨fun pins s I => pss_nil.run pins s σ H D I h⟩
/-- behind the first statement: the rest -/
theorem sx_ps {st : Stmt} {t : TS} (h : PS X st t) (k : t { D with nx := fun σ' H' => Sx X rest σ' H' D } σ H) : Sx X (st :: rest) σ H D :=
  ⟨fun pins s I => (pss_cons h (tSx_pss rest)).run pins s σ H D I k⟩
theorem sx_asg {i : Nat} {n : Str} {k : α → M ρ} (cf : Cf X B F H N Q E R Z) (he : Ev X B e σ F m) (hm : (M.bind m k) N Q E)
    (next : ∀ x N1 v F1 H1, k x N1 Q E → Gd B.at_ F H F1 H1 → Cf X B F1 H1 N1 Q E R Z → Is X.K B.at_ F1 (toD x) v → Sx X rest (σ.set i (some v)) H1 D)
    (hN : X.N.Nodup) (hi : X.N[i]? = some n) (hx : Loc X.env.scope n) (hs : swapsWith e (some (.Name n p1)) pos.line X.env = pure false := by rfl)
    (hf : X.fn n = true ∨ X.env.scope.names.lookup n = some .local := by first | exact .inl rfl | exact .inr rfl | assumption) : Sx X (.Assign [.Name n p1] e pos :: rest) σ H D :=
  sx_ps (ps_set hN hi hx he.pe hs hf) (tEv_mk cf.tk (Ex.refl F) cf.e cf.b hm cf.c.ex fun x N2 v F2 H2 q g b i => next x N2 v F2 H2 q g (cf.on g b) i)
theorem sx_expr {k : α → M ρ} (cf : Cf X B F H N Q E R Z) (he : Ev X B e σ F m) (hm : (M.bind m k) N Q E)
    (next : ∀ x N1 F1 H1, k x N1 Q E → Gd B.at_ F H F1 H1 → Cf X B F1 H1 N1 Q E R Z → Sx X rest σ H1 D) (hs : swapsWith e none pos.line X.env = pure false := by rfl) : Sx X (.Expr e pos :: rest) σ H D :=
  sx_ps (ps_expr he.pe hs) (tEv_mk cf.tk (Ex.refl F) cf.e cf.b hm cf.c.ex fun x N2 v F2 H2 q g b i => next x N2 F2 H2 q g (cf.on g b))
theorem sx_ret {m : M ρ} (cf : Cf X B F H N Q E R Z) (he : Ev X B e σ F m) (hm : m N Q E) (hD : D.rt = R) : Sx X (.Return (some e) pos :: rest) σ H D :=
  sx_ps (ps_ret he.pe) (tEv_mk cf.tk (Ex.refl F) cf.e cf.b hm cf.c.ex fun x N2 v F2 H2 q g b i => by
    show D.rt v H2
    rw [hD]
    exact cf.c.ok x N2 v F2 H2 q g b i)
theorem sx_if {c : Expr} {sa sb : List Stmt} {mc : M Bool} {ka kb : M ρ} (cf : Cf X B F H N Q E R Z) (hc : Et X B c σ F mc) (hm : (M.bind mc fun x => cond x ka kb) N Q E)
    (h1 : ∀ N1 F1 H1, ka N1 Q E → Gd B.at_ F H F1 H1 → Cf X B F1 H1 N1 Q E R Z → Sx X sa σ H1 { D with nx := fun σ' H' => Sx X rest σ' H' D })
    (h2 : ∀ N1 F1 H1, kb N1 Q E → Gd B.at_ F H F1 H1 → Cf X B F1 H1 N1 Q E R Z → Sx X sb σ H1 { D with nx := fun σ' H' => Sx X rest σ' H' D }) : Sx X (.If c sa sb pos :: rest) σ H D :=
  sx_ps (ps_if hc.pt (tSx_pss sa) (tSx_pss sb)) (tEt_mk cf.tk (Ex.refl F) cf.e cf.b hm cf.c.ex fun x N2 F2 H2 q g b => by
    cases x with
    | true => exact h1 N2 F2 H2 q g (cf.on g b)
    | false => exact h2 N2 F2 H2 q g (cf.on g b))
/-- while: Rl says which slots hold the state, and what else stands -/
theorem sx_while {S : Type} {c : Expr} {body : List Stmt} {mc : S → M Bool} {mb : S → (S → M ρ) → M ρ} {k : S → M ρ} {n : Nat} {st : S} (Rl : S → L2.St → Hp → Hp → Prop) (cf : Cf X B F H N Q E R Z) (hm : M.whileK mc mb k n st N Q E)
    (h0 : Rl st σ F H) (hc : ∀ st σ F H, Rl st σ F H → Et X B c σ F (mc st)) (hmono : ∀ st σ F H F1 H1, Rl st σ F H → Gd B.at_ F H F1 H1 → Rl st σ F1 H1)
    (hb : ∀ st σ F H N (nxt : S → M ρ) (D' : Ends), Rl st σ F H → Cf X B F H N Q E R Z → mb st nxt N Q E → D'.rt = D.rt → (∀ st' σ' F' H' N', Rl st' σ' F' H' → Cf X B F' H' N' Q E R Z → nxt st' N' Q E → D'.nx σ' H') → Sx X body σ H D')
    (hk : ∀ st σ F H N, Rl st σ F H → Cf X B F H N Q E R Z → k st N Q E → Sx X rest σ H D)
    (hp : PassesOwn (model X.prog X.w) X.A X.env X.xe) : Sx X (.While c body [] pos :: rest) σ H D := by
  have main : ∀ (n : Nat) (σ : L2.St) (H : Hp), (∃ st F N, Rl st σ F H ∧ Cf X B F H N Q E R Z ∧ M.whileK mc mb k n st N Q E) →
      (fun (σ : L2.St) (H : Hp) (K : Bool → Hp → Prop) => ∃ F mq, Et X B c σ F mq ∧ tEt X B σ F mq σ H K) σ H (fun b H1 => if b = true then ∃ Nx : L2.St → Hp → Prop, (∀ σ' H', Nx σ' H' → ∃ m', m' < n ∧ (∃ st F N, Rl st σ' F H' ∧ Cf X B F H' N Q E R Z ∧ M.whileK mc mb k m' st N Q E)) ∧
        tSx X body { D with nx := Nx, ct := Nx, bk := fun σ' H' => Sx X rest σ' H' D } σ H1 else Sx X rest σ H1 D) := by
    intro n σ H ⟨st, F, N, r, cf, hm⟩
    cases n with
    | zero => exact hm.elim
    | succ n =>
      refine ⟨F, mc st, hc st σ F H r, tEt_mk cf.tk (Ex.refl F) cf.e cf.b hm cf.c.ex fun x N2 F2 H2 q g b => ?_⟩
      cases x with
      | false => exact hk st σ F2 H2 N2 (hmono _ _ _ _ _ _ r g) (cf.on g b) q
      | true =>
        refine ⟨fun σ' H' => ∃ st F N, Rl st σ' F H' ∧ Cf X B F H' N Q E R Z ∧ M.whileK mc mb k n st N Q E, fun σ' H' h => ⟨n, Nat.lt_succ_self n, h⟩, ?_⟩
        exact hb st σ F2 H2 N2 _ _ (hmono _ _ _ _ _ _ r g) (cf.on g b) q rfl fun st' σ' F' H' N' r' cf' q' => ⟨st', F', N', r', cf', q'⟩
  have pc : PT X c (fun σ H K => ∃ F mq, Et X B c σ F mq ∧ tEt X B σ F mq σ H K) := ⟨fun pins s σ H K I ⟨F, mq, h, t⟩ => h.pt.run pins s σ H K I t⟩
  exact sx_ps (ps_while hp pc (tSx_pss body)) ⟨fun n σ H => ∃ st F N, Rl st σ F H ∧ Cf X B F H N Q E R Z ∧ M.whileK mc mb k n st N Q E, ⟨n, st, F, N, h0, cf, hm⟩, fun n σ H w => main n σ H w⟩
/-! ### what is walked -/
/-- J gives the items xs, one after another -/
structure ItOk (K : PySem.W.Frag) (p : Option Addr) (J : It) (F : Hp) (xs : List α) : Prop where
  go : ∀ (i : Nat) (F1 H : Hp), Ex F F1 → Ex F1 H → i < xs.length → J.go i H
  yld : ∀ (i : Nat) (F1 H : Hp) (v : V) (H' : Hp) (x : α), Ex F F1 → Ex F1 H → xs[i]? = some x → J.yld i H v H' → ∃ F2, Gd none F1 H F2 H' ∧ Is K p F2 (toD x) v
  stop : ∀ (i : Nat) (F1 H : Hp), Ex F F1 → Ex F1 H → xs.length ≤ i → J.stop i H
def EvI (X : Cx) (B : Box) (tg iter : Expr) (σ : L2.St) (F : Hp) (m : M (List α)) : Prop :=
  ∃ wi : TI, PI X tg iter wi ∧ ∀ (F1 H1 : Hp) (N : Nat) (Q : List α → Nat → Prop) (E : Err → Nat → Prop) (W : WX) (R : It → Hp → Prop), Takes X W → Ex F F1 → Ex F1 H1 → Bx B F1 H1 N → m N Q E → CE X.K B F1 H1 E (fun c d H => W c d σ H) →
    (∀ xs N2 J F2 H2, Q xs N2 → Gd B.at_ F1 H1 F2 H2 → Bx B F2 H2 N2 → ItOk X.K B.at_ J F2 xs → R J H2) → wi σ H1 R
/-- a target: what it puts where -/
structure EvG (X : Cx) (B : Box) (tg : Expr) (put : α → L2.St → Hp → L2.St → Prop) : Prop where
  puts : ∃ g : TG, PG X tg g ∧ ∀ (x : α) (v : V) (σ : L2.St) (F H : Hp) (P : L2.St → Hp → Prop), Ex F H → Is X.K B.at_ F (toD x) v → (∀ σ', put x σ F σ' → P σ' H) → g v σ H P
theorem evg_name {i : Nat} {n : Str} (hN : X.N.Nodup) (hi : X.N[i]? = some n) (hx : Loc X.env.scope n) (hf : X.fn n = true ∨ X.env.scope.names.lookup n = some .local := by first | exact .inl rfl | exact .inr rfl | assumption) :
    EvG X B (.Name n pos) (fun (x : α) σ F σ' => ∃ v, Is X.K B.at_ F (toD x) v ∧ σ' = σ.set i (some v)) :=
  ⟨gName i, pg_name hN hi hx hf, fun x v σ F H P e h k => k _ ⟨v, h, rfl⟩⟩
theorem sx_for {S : Type} {tg iter : Expr} {body : List Stmt} {mx : M (List α)} {mb : α → S → (S → M ρ) → M ρ} {k : S → M ρ} {st : S} {put : α → L2.St → Hp → L2.St → Prop} (Rl : S → L2.St → Hp → Hp → Prop)
    (cf : Cf X B F H N Q E R Z) (hi : EvI X B tg iter σ F mx) (hg : EvG X B tg put) (hm : (M.bind mx fun xs => M.forK mb k xs st) N Q E)
    (h0 : Rl st σ F H) (hmono : ∀ st σ F H F1 H1, Rl st σ F H → Gd B.at_ F H F1 H1 → Rl st σ F1 H1)
    (hb : ∀ x st σ σ1 F H N (nxt : S → M ρ) (D' : Ends), Rl st σ F H → put x σ F σ1 → Cf X B F H N Q E R Z → mb x st nxt N Q E → D'.rt = D.rt → (∀ st' σ' F' H' N', Rl st' σ' F' H' → Ex F F' → Cf X B F' H' N' Q E R Z → nxt st' N' Q E → D'.nx σ' H' ∧ D'.ct σ' H') →
      (∀ st' σ' F' H' N', Rl st' σ' F' H' → Cf X B F' H' N' Q E R Z → k st' N' Q E → D'.bk σ' H') → Sx X body σ1 H D')
    (hk : ∀ st σ F H N, Rl st σ F H → Cf X B F H N Q E R Z → k st N Q E → Sx X rest σ H D)
    (hp : PassesOwn (model X.prog X.w) X.A X.env X.xe) (hc : X.calm = true) (hs : ∀ x, foldedSetIterable iter X.env x = pure x := by intro _; rfl) : Sx X (.For tg iter body [] pos :: rest) σ H D := by
  obtain ⟨wi, pi, hw⟩ := hi
  obtain ⟨g, pg, hput⟩ := hg.puts
  refine sx_ps (ps_for hp hc pi pg (tSx_pss body) hs) ?_
  refine hw F H N _ E _ _ cf.tk (Ex.refl F) cf.e cf.b hm cf.c.ex fun xs N2 J F2 H2 q g2 b2 it => ?_
  refine ⟨fun i m σ H => m = xs.length - i ∧ i ≤ xs.length ∧ ∃ st F N, Ex F2 F ∧ Rl st σ F H ∧ Cf X B F H N Q E R Z ∧ M.forK mb k (xs.drop i) st N Q E,
    ⟨xs.length, rfl, Nat.zero_le _, st, F2, N2, Ex.refl F2, hmono _ _ _ _ _ _ h0 g2, cf.on g2 b2, q⟩, ?_⟩
  rintro i m σ H ⟨rfl, hi, st, F, N, ef, r, cf, q⟩
  by_cases hlt : i < xs.length
  · refine .inr ⟨it.go i F H ef cf.e hlt, fun σ' H' => ∃ st F N, Ex F2 F ∧ Rl st σ' F H' ∧ Cf X B F H' N Q E R Z ∧ M.forK mb k (xs.drop (i + 1)) st N Q E, fun σ' H' h => ⟨xs.length - (i + 1), by omega, rfl, hlt, h⟩, fun v H' y => ?_⟩
    have hx : xs[i]? = some xs[i] := by simp [hlt]
    obtain ⟨F3, g3, is3⟩ := it.yld i F H v H' xs[i] ef cf.e hx y
    have g3' : Gd B.at_ F H F3 H' := g3.weak
    have b3 : Bx B F3 H' N := cf.b.keep g3
    rw [List.drop_eq_getElem_cons hlt] at q
    refine hput xs[i] v σ F3 H' _ g3.sub is3 fun σ1 hp1 => ?_
    refine hb xs[i] st σ σ1 F3 H' N _ _ (hmono _ _ _ _ _ _ r g3') hp1 (cf.on g3' b3) q rfl (fun st' σ' F' H'' N' r' ef' cf' q' => ?_) fun st' σ' F' H'' N' r' cf' q' => hk st' σ' F' H'' N' r' cf' q'
    have h : ∃ st F N, Ex F2 F ∧ Rl st σ' F H'' ∧ Cf X B F H'' N Q E R Z ∧ M.forK mb k (xs.drop (i + 1)) st N Q E := ⟨st', F', N', (ef.trans g3.f).trans ef', r', cf', q'⟩
    exact ⟨h, h⟩
  · have e : i = xs.length := by omega
    subst e
    rw [List.drop_length] at q
    exact .inl ⟨it.stop _ F H ef cf.e (Nat.le_refl _), hk st σ F H N r cf q⟩
/-- over a list -/
theorem evi_list {ml : M (List α)} {tg l : Expr} (h : Ev X B l σ F ml) : EvI X B tg l σ F ml := by
  refine ⟨_, pi_list h.pe, fun F1 H1 N Q E W R tk e1 e2 b hm cx k => tEv_mk tk e1 e2 b hm cx fun xs N2 v F2 H2 q g b2 i => ?_⟩
  obtain ⟨a, vs, ev, hl, hi⟩ := id i
  refine ⟨a, ev, ⟨vs, .inl (.inl (g.sub _ _ hl))⟩, k xs N2 _ F2 H2 q g b2 ?_⟩
  have nth : ∀ (i : Nat) (x : α) (ds : List D) (vs : List V) , IsL X.K B.at_ F2 ds vs → ds[i]? = some (toD x) → ∃ v, vs[i]? = some v ∧ Is X.K B.at_ F2 (toD x) v := by
    intro i x
    induction i with
    | zero =>
      intro ds vs h e
      cases ds with
      | nil => cases e
      | cons d ds =>
        obtain ⟨v, r, h1, h2, h3⟩ := h
        have e2 : d = toD x := Option.some.inj e
        subst h1
        exact ⟨v, rfl, e2 ▸ h2⟩
    | succ i ih =>
      intro ds vs h e
      cases ds with
      | nil => cases e
      | cons d ds =>
        obtain ⟨v, r, h1, h2, h3⟩ := h
        subst h1
        exact ih ds r h3 e
  have len : vs.length = xs.length := by rw [IsL.length hi, List.length_map]
  refine ⟨fun i F3 H e1 e2 hlt => ⟨vs, vs[i]'(by omega), .inl (.inl (e2 _ _ (e1 _ _ hl))), by simp [len, hlt]⟩, fun i F3 H v H' x e1 e2 hx y => ?_, fun i F3 H e1 e2 hle => ⟨vs, .inl (.inl (e2 _ _ (e1 _ _ hl))), by omega⟩⟩
  obtain ⟨rfl, y⟩ := y
  obtain ⟨v', hv, is⟩ := nth i x _ vs hi (by rw [List.getElem?_map, hx]; rfl)
  have e := y vs (.inl (.inl (e2 _ _ (e1 _ _ hl))))
  rw [hv] at e
  cases e
  exact ⟨F3, Gd.refl e2, is.mono e1⟩
def rangeI (n : Int) : List Int := (List.range n.toNat).map Int.ofNat
theorem rangeI_len (n : Int) : (rangeI n).length = n.toNat := by unfold rangeI; simp
theorem rangeI_get {n : Int} {i : Nat} {x : Int} (h : (rangeI n)[i]? = some x) : x = (i : Int) := by
  unfold rangeI at h
  rw [List.getElem?_map] at h
  cases q : (List.range n.toNat)[i]? with
  | none => rw [q] at h; cases h
  | some j =>
    rw [q] at h
    obtain ⟨h1, h2⟩ := List.getElem?_eq_some_iff.mp q
    rw [List.getElem_range] at h2
    subst h2
    exact (Option.some.inj h).symm
/-- over range(n) -/
theorem evi_range1 {mn : M Int} {tg : Expr} {p q : Pos} (hg : Gl X "range") (hm : X.mg "range" = none) (h : Ev X B a σ F mn) (hs : starEach [a] X.env = [(false, eval a X.env)] := by rfl) :
    EvI X B tg (.Call (.Name "range" p) [a] [] q) σ F (M.bind mn fun n => M.ask (-(2 ^ 62) ≤ n ∧ n < 2 ^ 62) (M.pure (rangeI n))) := by
  refine ⟨_, pi_range1 hg hm (pa_cons h.pe pa_nil hs) hs, fun F1 H1 N Q E W R tk e1 e2 b hm cx k => tEv_mk tk e1 e2 b hm cx fun n N2 v F2 H2 q g b2 i => ?_⟩
  refine ⟨n, congrArg (fun z => [z]) i, q.1.1, q.1.2, k _ N2 _ F2 H2 q.2 g b2 ⟨fun i F3 H e1 e2 hlt => ?_, fun i F3 H v H' x e1 e2 hx y => ?_, fun i F3 H e1 e2 hle => ?_⟩⟩
  · show i < n.toNat
    rw [rangeI_len] at hlt
    exact hlt
  · obtain ⟨rfl, rfl⟩ := y
    have e : x = (i : Int) := rangeI_get hx
    refine ⟨F3, Gd.refl e2, ?_⟩
    rw [e]
    show V.int (0 + (i : Int)) = V.int i
    rw [Int.zero_add]
  · show n.toNat ≤ i
    rw [rangeI_len] at hle
    exact hle
/-! ### a, b = x, y -/
theorem sx_par {i j : Nat} {n1 n2 : Str} {px py pt pt2 : Pos} {kt k2 : Nat} {m1 : M α} {m2 : M β} {k : α → β → M ρ} (cf : Cf X B F H N Q E R Z) (ha : Ev X B a σ F m1) (hb : Ev X B b σ F m2) (hm : (M.bind m1 fun x => M.bind m2 fun y => k x y) N Q E)
    (next : ∀ x y N1 v u F1 H1, k x y N1 Q E → Gd B.at_ F H F1 H1 → Cf X B F1 H1 N1 Q E R Z → Is X.K B.at_ F1 (toD x) v → Is X.K B.at_ F1 (toD y) u → Sx X rest ((σ.set i (some v)).set j (some u)) H1 D)
    (hc : X.calm = true) (hN : X.N.Nodup) (hi : X.N[i]? = some n1) (hj : X.N[j]? = some n2) (hij : i ≠ j) (hx : X.env.scope.names.lookup n1 = some .local) (hy : X.env.scope.names.lookup n2 = some .local)
    (hw : swappedStores [.Tuple [.Name n1 px, .Name n2 py] kt pt] (.Tuple [a, b] k2 pt2) X.env = pure (some [n1, n2])) (hs1 : starEach (a :: [b]) X.env = (false, eval a X.env) :: starEach [b] X.env := by rfl) (hs2 : starEach (b :: []) X.env = (false, eval b X.env) :: starEach [] X.env := by rfl)
    (hs : swapsWithSole [.Tuple [.Name n1 px, .Name n2 py] kt pt] (.Tuple [a, b] k2 pt2) pos.line X.env = pure false := by rfl) : Sx X (.Assign [.Tuple [.Name n1 px, .Name n2 py] kt pt] (.Tuple [a, b] k2 pt2) pos :: rest) σ H D :=
  sx_ps (ps_par hc hN hi hj hij hx hy (pa_cons ha.pe (pa_cons hb.pe pa_nil hs2) hs1) hw hs) (tEv_mk cf.tk (Ex.refl F) cf.e cf.b hm cf.c.ex fun x N2 v F2 H2 q g b i => tEv_mk cf.tk g.f g.sub b q (cf.c.ex.mono g) fun y N3 u F3 H3 q3 g3 b3 i3 =>
    ⟨v, u, rfl, next x y N3 v u F3 H3 q3 (g.trans g3) (cf.on (g.trans g3) b3) (i.mono g3.f) i3⟩)
end
/-! ### a def, by its body -/
section
variable {P : Program} {w : World} {K : PySem.W.Frag} {mg : Str → Option Value} {base : Heap} {x qual : Str} {params : Arguments} {body : List Stmt} {scope : Scope} {dvs : List V} {kws : List (Str × V)} {f : Addr} {fd : FuncData}
/-- THE RULE of a def: its body does what the mirror says -/
theorem fn_mir {B : Box} {A ρ : Type} [ToD ρ] {enc : A → List D} {mir : A → M ρ} {N ps : List Str} {k : Nat} (Fd : FunD K x qual params body scope dvs kws f fd) (S : FnScope N ps scope) (hl : ∀ a, (enc a).length = ps.length)
    (h : ∀ (X : Cx) (a : A) (vs : List V) (F H : Hp) (n : Nat) (Q : ρ → Nat → Prop) (E : Err → Nat → Prop) (R : VK) (Z : XK) (cdv : Value) (A : Around) (outer : List Env) (s : Shared),
      X = cxOf (L2.CX P w) P w K mg base N qual scope f cdv A outer s H Z → Room k X.A → IsL K B.at_ F (enc a) vs → mir a n Q E → Cf X B F H n Q E R Z → PassesOwn (model X.prog X.w) X.A X.env X.xe →
      Sx X body (start N vs) H { nx := fun _ H' => R .non H', rt := R }) :
    FnOk P w K mg base (L2.CX P w) (k + 1) f fd ps (spM K B enc mir) := by
  refine Fd.ok S (fun vs H Q E hsp => ?_) (fun cdv A outer s H vs Q E hr hsp => ?_)
  · obtain ⟨F, n, a, _, _, _, _, hi, _⟩ := hsp
    rw [hi.length, hl]
  · obtain ⟨F, n, a, Qm, Em, e, b, hi, hm, c⟩ := hsp
    refine ⟨tSx _ body, tSx_pss body, ?_⟩
    refine h (cxOf (L2.CX P w) P w K mg base N qual scope f cdv A outer s H E) a vs F H n Qm Em Q E cdv A outer s rfl hr hi hm ⟨?_, e, b, c⟩ ?_
    · exact takes_of rfl rfl rfl rfl
    · exact passes_of rfl
end
end L3

set_option Elab.async false
set_option linter.all false
set_option maxRecDepth 100000
set_option maxHeartbeats 4000000
/-! Own errors: made, raised. -/
namespace L3
open PySem PySem.Spec PyProof.Rows L2 ToD
/-- what the written part says of an error class -/
structure ErrC (K : PySem.W.Frag) (C : Addr) : Prop where
  x : OexC K C
  init : ∃ fI, PySem.W.findIn K (.ref C) "__init__" = some (some (.ref fI)) ∧ PySem.W.typeIn K (.ref fI) = some (.type "function") ∧ fI = He.ma K C "__init__"
/-- the base class whose __init__ is the built-in one -/
structure BaseC (K : PySem.W.Frag) (C : Addr) : Prop where
  r : ClX.CRead K C (.type "type")
  i : PySem.W.findCls K (.ref C) (.type "type") "__init__" = some (.val (.builtin "ValueError.__init__"))
section
variable {X : Cx} {B : Box} {σ : L2.St} {F H F1 H1 : Hp} {N N1 : Nat} {ρ α β : Type} [ToD ρ] [ToD α] [ToD β] {Q : ρ → Nat → Prop} {E : Err → Nat → Prop} {R : V → Hp → Prop} {Z : XK} {D : Ends}
  {e a b : Expr} {m : M α} {pos p1 p2 : Pos} {rest : List Stmt} {W : WX} {pins : List (Addr × Obj)} {s : Shared}
/-- the form of a method's call -/
def MCall (x m : Str) (es : List Expr) (p1 p2 pos : Pos) : Prop := ∀ env : Env, ∃ pl : Sem Bool, eval (.Call (.Attribute (.Name x p1) m p2) es [] pos) env = (do
      let ov ← eval (.Name x p1) env
      standAt p2.atName
      let (f, first) ← holding [ov] (getMethod ov m pl)
      callWith pos f first (backTo pos (starEach es env)) (backToKw pos (keywordEach [] env)))
/-- Base.__init__(self, ..) -/
theorem pe_kinit {es : List Expr} {ta : TA} {Cb : Addr} {x : Str} (hg : Gl X x) (hm : X.mg x = some (.ref Cb)) (hb : BaseC X.K Cb) (ha : PA X (e :: es) ta)
    (hc : MCall x "__init__" (e :: es) p1 p2 pos)
    (hdb : (x == ("__debug__" : Str)) = false := by decide)
    (he : starEach (e :: es) X.env = (false, eval e X.env) :: starEach es X.env := by rfl) (hpl : (backTo pos (starEach es X.env)).any (·.1) = false := by rfl) :
    PE X (.Call (.Attribute (.Name x p1) "__init__" p2) (e :: es) [] pos) (tVeI X.K ta) := by
  refine ⟨fun pins s σ H Q I h => ?_⟩
  obtain ⟨pl, hc⟩ := hc X.env
  refine PySem.W.methodCall_KW (ld_glob I hg hm ?_ hdb) hc
  refine PySem.W.method_cls I.kIn hb.r.ga (PySem.W.cls_value I.kIn hb.r.rd hb.i rfl ?_)
  have I0 := I.tok (s.toks + 1)
  refine PyProof.Rows.callWith_method1 (thn (ha.run pos pins _ σ H _ I0 h) fun us s1 ⟨vs, H1, I1, r1, a, C, ws, ev, hl, T, ea, q⟩ => ?_) he hpl
  subst ev
  cases r1 with
  | @cons _ u0 _ ur ra rw' =>
    obtain rfl : u0 = Value.ref a := ra
    have hlen : ur.length ≤ sizeLine := by
      rw [← Paired.length rw', sizeLine_eq]
      omega
    exact oinit_ok T I1 ea hlen fun s' J => ⟨.non, H1, J, rfl, q⟩
/-! ### an __init__ of no, one, two attributes -/
def spE0 (K : PySem.W.Frag) : Sp := fun vs H R _ => ∃ a C, vs = [.ref a] ∧ OexC K C ∧ H a = some (exo a C none) ∧ R .non H
def spE1 (K : PySem.W.Frag) (f : Str) : Sp := fun vs H R _ => ∃ a C y, vs = [.ref a, y] ∧ OexC K C ∧ PySem.W.findIn K (.ref C) f = some none ∧ H a = some (exo a C none) ∧
  ∀ dx, H dx = none → dx ≠ a → R .non (upd (upd H dx (exd dx [(f, y)])) a (exo a C (some dx)))
def spE2 (K : PySem.W.Frag) (f g : Str) : Sp := fun vs H R _ => ∃ a C y z, vs = [.ref a, y, z] ∧ OexC K C ∧ PySem.W.findIn K (.ref C) f = some none ∧ PySem.W.findIn K (.ref C) g = some none ∧ H a = some (exo a C none) ∧
  ∀ dx, H dx = none → dx ≠ a → R .non (upd (upd (upd H dx (exd dx [(f, y)])) a (exo a C (some dx))) dx (exd dx [(g, z), (f, y)]))
end
section
variable {P : Program} {w : World} {K : PySem.W.Frag} {mg : Str → Option Value} {base : Heap} {qual bn : Str} {params : Arguments} {scope : Scope} {dvs : List V} {kws : List (Str × V)} {fA Cb : Addr} {fd : FuncData}
theorem ok_e0 {msg : Str} {j : Nat} {p1 p2 p3 p4 p5 p6 : Pos} (Fd : FunD K "__init__" qual params [.Expr (.Call (.Attribute (.Name bn p1) "__init__" p2) [.Name "self" p3, .Constant (.str msg) j p4] [] p5) p6] scope dvs kws fA fd)
    (S : FnScope ["self"] ["self"] scope) (hself : scope.names.lookup ("self" : Str) = some NameKind.local) (hgl : scope.names.lookup bn = some NameKind.globalImplicit) (hb : BaseC K Cb) (hm : mg bn = some (.ref Cb)) (hc : MCall bn "__init__" [.Name "self" p3, .Constant (.str msg) j p4] p1 p2 p5) (hdb : (bn == ("__debug__" : Str)) = false := by decide) : FnOk P w K mg base (L2.CX P w) 1 fA fd ["self"] (spE0 K) := by
  refine Fd.ok S (fun vs H Q E h => ?_) (fun cdv A outer s H vs Q E hr h => ?_)
  · obtain ⟨a, C, rfl, _⟩ := h
    rfl
  · obtain ⟨a, C, rfl, T, ha, k⟩ := h
    refine ⟨_, pss_one (ps_expr (pe_kinit (Cb := Cb) hgl hm hb (pa_cons (pe_var (i := 0) rfl (.inl hself)) (pa_cons pe_str pa_nil)) hc hdb)), ?_⟩
    exact ⟨_, rfl, a, C, _, rfl, by show 1 ≤ 1000; decide, T, ha, k⟩
theorem ok_e1 {msg f : Str} {j : Nat} {p1 p2 p3 p4 p5 p6 p7 p8 p9 p10 : Pos} (Fd : FunD K "__init__" qual params [.Expr (.Call (.Attribute (.Name bn p1) "__init__" p2) [.Name "self" p3, .Constant (.str msg) j p4] [] p5) p6, .Assign [.Attribute (.Name "self" p7) f p8] (.Name f p9) p10] scope dvs kws fA fd)
    (S : FnScope ["self", f] ["self", f] scope) (hself : scope.names.lookup ("self" : Str) = some NameKind.local) (hf : scope.names.lookup f = some NameKind.local) (hgl : scope.names.lookup bn = some NameKind.globalImplicit) (hb : BaseC K Cb) (hm : mg bn = some (.ref Cb)) (hc : MCall bn "__init__" [.Name "self" p3, .Constant (.str msg) j p4] p1 p2 p5)
    (hdb : (bn == ("__debug__" : Str)) = false := by decide) (hdf : (f == ("__debug__" : Str)) = false := by decide) (hcf : (f == ("__classdict__" : Str)) = false := by decide) : FnOk P w K mg base (L2.CX P w) 1 fA fd ["self", f] (spE1 K f) := by
  refine Fd.ok S (fun vs H Q E h => ?_) (fun cdv A outer s H vs Q E hr h => ?_)
  · obtain ⟨a, C, y, rfl, _⟩ := h
    rfl
  · obtain ⟨a, C, y, rfl, T, hno, ha, k⟩ := h
    refine ⟨_, pss_cons (ps_expr (pe_kinit (Cb := Cb) hgl hm hb (pa_cons (pe_var (i := 0) rfl (.inl hself)) (pa_cons pe_str pa_nil)) hc hdb)) (pss_one (ps_ost (pe_var (i := 0) rfl (.inl hself)) (pe_var (i := 1) rfl (.inl hf) hdf hcf))), ?_⟩
    exact ⟨_, rfl, a, C, _, rfl, by show 1 ≤ 1000; decide, T, ha, _, rfl, _, rfl, a, C, rfl, T, hno, .inl ⟨ha, k⟩⟩
theorem ok_e2 {msg f g : Str} {j : Nat} {p1 p2 p3 p4 p5 p6 p7 p8 p9 p10 q7 q8 q9 q10 : Pos} (Fd : FunD K "__init__" qual params [.Expr (.Call (.Attribute (.Name bn p1) "__init__" p2) [.Name "self" p3, .Constant (.str msg) j p4] [] p5) p6,
      .Assign [.Attribute (.Name "self" p7) f p8] (.Name f p9) p10, .Assign [.Attribute (.Name "self" q7) g q8] (.Name g q9) q10] scope dvs kws fA fd)
    (S : FnScope ["self", f, g] ["self", f, g] scope) (hself : scope.names.lookup ("self" : Str) = some NameKind.local) (hf : scope.names.lookup f = some NameKind.local) (hg : scope.names.lookup g = some NameKind.local) (hgl : scope.names.lookup bn = some NameKind.globalImplicit) (hb : BaseC K Cb) (hm : mg bn = some (.ref Cb)) (hc : MCall bn "__init__" [.Name "self" p3, .Constant (.str msg) j p4] p1 p2 p5)
    (hdb : (bn == ("__debug__" : Str)) = false := by decide) (hdf : (f == ("__debug__" : Str)) = false := by decide) (hcf : (f == ("__classdict__" : Str)) = false := by decide)
    (hdg : (g == ("__debug__" : Str)) = false := by decide) (hcg : (g == ("__classdict__" : Str)) = false := by decide) : FnOk P w K mg base (L2.CX P w) 1 fA fd ["self", f, g] (spE2 K f g) := by
  refine Fd.ok S (fun vs H Q E h => ?_) (fun cdv A outer s H vs Q E hr h => ?_)
  · obtain ⟨a, C, y, z, rfl, _⟩ := h
    rfl
  · obtain ⟨a, C, y, z, rfl, T, hno, hno2, ha, k⟩ := h
    refine ⟨_, pss_cons (ps_expr (pe_kinit (Cb := Cb) hgl hm hb (pa_cons (pe_var (i := 0) rfl (.inl hself)) (pa_cons pe_str pa_nil)) hc hdb)) (pss_cons (ps_ost (pe_var (i := 0) rfl (.inl hself)) (pe_var (i := 1) rfl (.inl hf) hdf hcf)) (pss_one (ps_ost (pe_var (i := 0) rfl (.inl hself)) (pe_var (i := 2) rfl (.inl hg) hdg hcg)))), ?_⟩
    refine ⟨_, rfl, a, C, _, rfl, by show 1 ≤ 1000; decide, T, ha, _, rfl, _, rfl, a, C, rfl, T, hno, .inl ⟨ha, fun dx n ne => ?_⟩⟩
    exact ⟨_, rfl, _, rfl, a, C, rfl, T, hno2, .inr ⟨dx, [(f, y)], upd_same, by rw [upd_ne ne, upd_same], by show 1 ≤ 900; decide, k dx n ne⟩⟩
end
/-! ### raised -/
section
variable {X : Cx} {B : Box} {σ : L2.St} {F H F1 H1 : Hp} {N N1 : Nat} {ρ α β : Type} [ToD ρ] [ToD α] [ToD β] {Q : ρ → Nat → Prop} {E : Err → Nat → Prop} {R : V → Hp → Prop} {Z : XK} {D : Ends}
  {e a b : Expr} {m : M α} {pos p pos2 : Pos} {rest : List Stmt} {W : WX} {pins : List (Addr × Obj)} {s : Shared} {x : Str} {C fI : Addr} {k : Nat} {fd : FuncData} {ps : List Str}
/-- the end of C(): an exception without a dict is let go -/
theorem mk_end00 {Qx : XK} {hp hp2 h2 : Heap} {g1 g2 : Array GenState} {d1 d2 : Drawn} {t1 t2 : Nat} {os1 os2 : OsState} {a C : Addr} (T : Raises X (.ref C)) (I1 : Inv X pins σ H1 ⟨hp, g1, d1, t1, os1⟩)
    (ha : hp.objs.size ≤ a) (k : ∀ b o, hp.get? b = some o → hp2.get? b = some o) (un : Un (frs X.stack) [] (upd H1 a (exo a C none)) (upd H1 a (exo a C none)) hp2 h2) (hok : HOk X.prog X.w (upd H1 a (exo a C none)) h2) (ho : os2 = os1) (hb : AllBare g2)
    (q : Qx (.ref C) none H1) : MkP X pins σ Qx (.ref a) ⟨h2, g2, d2, t2, os2⟩ := by
  obtain ⟨t0, hoe⟩ := exo_at hok (upd_same (H := H1) (a := a) (o := exo a C none))
  have hn : H1 a = none := I1.hok.fresh ha
  obtain ⟨G, g1', g2'⟩ := restrict h2 fun b => decide (b ≠ a)
  have gk : ∀ b, b ≠ a → G.get? b = h2.get? b := fun b hb => g1' b (decide_eq_true hb)
  have ge : G.get? a = none := g2' a (by simp)
  have nha : ∀ {b : Addr} {o : Obj}, hp.get? b = some o → b ≠ a := fun {b o} z => Nat.ne_of_lt (Nat.lt_of_lt_of_le (Heap.lt_size z) ha)
  have up : ∀ {b : Addr}, b ≠ a → H1 b = none → upd H1 a (exo a C none) b = none := fun {b} hb n => by rw [upd_ne hb]; exact n
  have U : Un (frs X.stack) [] H1 H1 hp G := {
    keep := fun b o z n hf hx => by
      rw [gk b (nha z)]
      exact un.keep b o (k b o z) (up (nha z) n) hf hx
    slot := fun b o z n hf hx => by
      rw [gk b (nha z)]
      exact un.slot b o (k b o z) (up (nha z) n) hf hx
    free := fun b o z n hx => n
    there := fun b o z hx => by
      rw [gk b (nha z)]
      exact un.there b o (k b o z) hx
    tups := fun b xs z => z
    frzs := fun b o v z => z
    tbls := fun b ps z => ⟨#[], by rw [z]; simp⟩ }
  have hok3 : HOk X.prog X.w H1 G := fun b o z => by
    have hba : b ≠ a := fun e => by rw [e, hn] at z; cases z
    have noa : ∀ {c : Addr}, upd H1 a (exo a C none) c = some (.own b) → c ≠ a := fun {c} hc => at_ne (upd_same (H := H1) (a := a) (o := exo a C none)) hc exo_own
    exact (hok b o (by rw [upd_ne hba]; exact z)).stay (fun c v hc y => by
        have hca : c ≠ a := by
          rcases hc with hc | hc
          · rw [hc]; exact hba
          · exact noa hc
        rw [gk c hca]
        exact y)
      (fun c hc => by rw [upd_ne (noa hc)] at hc; exact hc) (fun c xs hc => by
        have hca : c ≠ a := at_ne (upd_same (H := H1) (a := a) (o := exo a C none)) hc exo_tup
        rw [upd_ne hca] at hc
        exact hc)
  have J : Inv X pins σ H1 ⟨G, g2, d2, t2, os2⟩ := I1.call' (ch := []) ho U hok3 hb (fun b z => absurd z (by simp))
  refine ⟨a, _, _, ⟨G, g2, d2, t2, os2⟩, _, .ref C, none, rfl, J, fun b o z => ?_, ge, hoe, ⟨rfl, rfl⟩, rfl, rfl, hn, rfl, hb, T, q⟩
  by_cases hba : b = a
  · rw [hba, ge] at z; cases z
  · exact (gk b hba).symm.trans z
/-- the class called upon its arguments: its __init__ runs at the new exception -/
theorem run_oex {sp : Sp} {us : List Value} {vs : List V} {Qx : XK} (T : OexC X.K C) (iC : PySem.W.findIn X.K (.ref C) "__init__" = some (some (.ref fI))) (tI : PySem.W.typeIn X.K (.ref fI) = some (.type "function"))
    (F1 : FnOk X.prog X.w X.K X.mg X.base (L2.CX X.prog X.w) k fI fd ps sp) (hr : Room (k + 1) X.A) (hb : Binds X.K fd ps []) (I1 : Inv X pins σ H1 s) (r1 : Vals vs us) (hz : vs.length ≤ 1000)
    (q1 : ∀ a, H1 a = none → sp (.ref a :: vs) (upd H1 a (exo a C none)) (fun v H2 => v = .non ∧ ((H2 = upd H1 a (exo a C none) ∧ Qx (.ref C) none H1) ∨ ∃ (d : Addr) (fs : List (Str × V)), H2 a = some (exo a C (some d)) ∧ H2 d = some (exd d fs) ∧ H1 d = none ∧ Qx (.ref C) (some d) (upd (del H2 a) d (.xd fs)))) (fun _ _ _ => False)) :
    wpAny (model X.prog X.w) X.A (call (.ref C) us) (MkP X pins σ Qx) X.xe s := by
  obtain ⟨nm, q, N, bs, bm, sn, sub, ab, col, dd, k0, k1, k2, k3, k5, hC, hbm⟩ := T.cls
  obtain ⟨hp, g, dr, tk, os⟩ := s
  have hsz : hp.objs.size ≤ hp.objs.size + 1 := Nat.le_succ _
  have hn : H1 (hp.objs.size + 1) = none := I1.hok.fresh hsz
  have hq := q1 (hp.objs.size + 1) hn
  have kk : ∀ b o, hp.get? b = some o → ((hp.push (PySem.W.kdv_tup us)).push (PySem.HandSPX.excO C hp.objs.size)).get? b = some o := fun b o e => Heap.get?_push_of_some _ (Heap.get?_push_of_some _ e)
  have hget : ((hp.push (PySem.W.kdv_tup us)).push (PySem.HandSPX.excO C hp.objs.size)).get? (hp.objs.size + 1) = some (PySem.HandSPX.excO C hp.objs.size) := by heap_get
  have I2 : Inv X pins σ (upd H1 (hp.objs.size + 1) (exo (hp.objs.size + 1) C none)) ⟨(hp.push (PySem.W.kdv_tup us)).push (PySem.HandSPX.excO C hp.objs.size), g, dr, tk, os⟩ :=
    I1.laid (t' := tk) (a := hp.objs.size + 1) (o := exo (hp.objs.size + 1) C none) (h' := (hp.push (PySem.W.kdv_tup us)).push (PySem.HandSPX.excO C hp.objs.size)) kk hsz (exo_ok hget)
  have r2 : Vals (V.ref (hp.objs.size + 1) :: vs) (Value.ref (hp.objs.size + 1) :: us) := .cons rfl r1
  have hl : (Value.ref (hp.objs.size + 1) :: us ++ []).length = ps.length := by
    have e := r2.length
    rw [F1.len _ _ _ _ hq] at e
    rw [List.append_nil]
    exact e.symm
  have hus : us.length ≤ sizeLine := by
    rw [← Paired.length r1, sizeLine_eq]
    omega
  have bb := hb _ (Value.ref (hp.objs.size + 1) :: us) I2.kIn hl
  rw [List.append_nil] at bb
  refine wpAny_call (PySem.HandSPX.call_own F.excBase_ValueError (fun Y => PySem.HandSPX.refsVE_contains Y bm hbm) (I1.kIn _ _ hC) (PySem.W.looks_findIn I1.kIn iC) (fun self => PySem.W.bind_fn I1.kIn self tI) hus
    (codeAny_mono (F1.run _ X.stack _ _ ⟨Value.ref (hp.objs.size + 1) :: us, []⟩ (Value.ref (hp.objs.size + 1) :: us) _ _ (fun _ _ _ => False) (hr.make C us []) (I2.env0.make C us []) bb r2 hq) fun r s' hq' => ?_))
  cases r with
  | error er =>
    obtain ⟨_, _, _, _, _, _, _, _, _, _, _, _, z⟩ := hq'
    exact z.elim
  | ok fl =>
    cases fl with
    | ret u =>
      obtain ⟨v, H2, os2, bare2, un2, hok2, rv, ev, q2⟩ := hq'
      subst ev
      obtain ⟨h2, g2, d2, t2, os'⟩ := s'
      rcases q2 with ⟨e2, q2⟩ | ⟨d, fs, ea, ed, hd1, q2⟩
      · subst e2
        exact ⟨rv, mk_end00 (raises_own T.exC T.tyC) I1 hsz kk un2 hok2 os2 bare2 q2⟩
      · exact ⟨rv, mk_end (raises_own T.exC T.tyC) I1 hsz kk un2 hok2 os2 bare2 ea ed hd1 q2⟩
    | next => exact False.elim hq'
    | brk => exact False.elim hq'
    | cont => exact False.elim hq'
theorem pmk0 {sp : Sp} (T : OexC X.K C) (iC : PySem.W.findIn X.K (.ref C) "__init__" = some (some (.ref fI))) (tI : PySem.W.typeIn X.K (.ref fI) = some (.type "function"))
    (F1 : FnOk X.prog X.w X.K X.mg X.base (L2.CX X.prog X.w) k fI fd ps sp) (hr : Room (k + 1) X.A) (hb : Binds X.K fd ps []) (hg : Gl X x) (hm : X.mg x = some (.ref C)) (hdb : (x == ("__debug__" : Str)) = false := by decide) :
    PMk X (.Call (.Name x p) [] [] pos) (fun σ H Q => ∀ a, H a = none → sp [.ref a] (upd H a (exo a C none)) (fun v H2 => v = .non ∧ ((H2 = upd H a (exo a C none) ∧ Q (.ref C) none H) ∨ ∃ (d : Addr) (fs : List (Str × V)), H2 a = some (exo a C (some d)) ∧ H2 d = some (exd d fs) ∧ H d = none ∧ Q (.ref C) (some d) (upd (del H2 a) d (.xd fs)))) (fun _ _ _ => False)) := by
  intro pins s σ H Q I h
  refine wpAny_Call_Name_kw (ld_glob I hg hm ?_ hdb)
  exact PySem.W.callWith_K0 I.kIn T.kC (run_oex (us := []) (vs := []) T iC tI F1 hr hb I .nil (by simp) h)
theorem pmkN {sp : Sp} {es : List Expr} {ta : TA} (T : OexC X.K C) (iC : PySem.W.findIn X.K (.ref C) "__init__" = some (some (.ref fI))) (tI : PySem.W.typeIn X.K (.ref fI) = some (.type "function"))
    (F1 : FnOk X.prog X.w X.K X.mg X.base (L2.CX X.prog X.w) k fI fd ps sp) (hr : Room (k + 1) X.A) (hb : Binds X.K fd ps []) (hg : Gl X x) (hm : X.mg x = some (.ref C)) (ha : PA X (e :: es) ta)
    (hdb : (x == ("__debug__" : Str)) = false := by decide) (he : starEach (e :: es) X.env = (false, eval e X.env) :: starEach es X.env := by rfl) (hpl : (backTo pos (starEach es X.env)).any (·.1) = false := by rfl) :
    PMk X (.Call (.Name x p) (e :: es) [] pos) (fun σ H0 Q => ta σ H0 fun vs H => vs.length ≤ 1000 ∧ ∀ a, H a = none → sp (.ref a :: vs) (upd H a (exo a C none)) (fun v H2 => v = .non ∧ ((H2 = upd H a (exo a C none) ∧ Q (.ref C) none H) ∨ ∃ (d : Addr) (fs : List (Str × V)), H2 a = some (exo a C (some d)) ∧ H2 d = some (exd d fs) ∧ H d = none ∧ Q (.ref C) (some d) (upd (del H2 a) d (.xd fs)))) (fun _ _ _ => False)) := by
  intro pins s σ H Q I h
  refine wpAny_Call_Name_kw (ld_glob I hg hm ?_ hdb)
  exact PySem.W.callWith_K (h₀ := X.base) I.ok.mod.kin T.kC (thn (ha.run pos pins s σ H _ I h) fun us s1 ⟨vs, H1, I1, r1, hz, q1⟩ => ⟨I1.kIn, run_oex T iC tI F1 hr hb I1 r1 hz q1⟩) he hpl
/-- an error class by its name, with its __init__'s promise -/
structure ErrOk (X : Cx) (x : Str) (sp : Sp) : Prop where
  c : ErrC X.K (He.ga X.K x)
  g : X.mg x = some (.ref (He.ga X.K x))
  f : ∃ fd ps, FnOk X.prog X.w X.K X.mg X.base (L2.CX X.prog X.w) 1 (He.ma X.K (He.ga X.K x) "__init__") fd ps sp ∧ Binds X.K fd ps []
theorem del_upd {H : Hp} {a d : Addr} {o u v : HO} (n : H a = none) (hd : d ≠ a) : upd (del (upd (upd H d o) a u) a) d v = upd H d v := by
  funext b
  by_cases h1 : b = d
  · rw [h1, upd_same, upd_same]
  · rw [upd_ne h1, upd_ne h1]
    by_cases h2 : b = a
    · rw [h2, del_same, n]
    · rw [del_ne h2, upd_ne h2, upd_ne h1]
theorem sx_raise0 (cf : Cf X B F H N Q E R Z) (T : ErrOk X x (spE0 X.K)) (hr : Room 2 X.A) (hm : (M.throw ⟨x, []⟩ : M ρ) N Q E) (hc : X.calm = true) (hg : Gl X x) (hdb : (x == ("__debug__" : Str)) = false := by decide) :
    Sx X (.Raise (some (.Call (.Name x p) [] [] pos)) none pos2 :: rest) σ H D := by
  obtain ⟨fd, ps, Fn, hb⟩ := T.f
  obtain ⟨fI, i1, i2, i3⟩ := T.c.init
  subst i3
  refine sx_ps (ps_raise hc cf.tk (pmk0 T.c.x i1 i2 Fn hr hb hg T.g hdb)) ?_
  intro a na
  refine ⟨a, He.ga X.K x, rfl, T.c.x, upd_same, rfl, .inl ⟨rfl, ?_⟩⟩
  exact cf.c.ex ⟨x, []⟩ N _ _ F H hm (Gd.refl cf.e) cf.b ⟨rfl, .inl ⟨rfl, rfl⟩⟩
theorem sx_raise1 {f : Str} (cf : Cf X B F H N Q E R Z) (T : ErrOk X x (spE1 X.K f)) (hno : PySem.W.findIn X.K (.ref (He.ga X.K x)) f = some none) (hr : Room 2 X.A) (he : Ev X B e σ F m) (hm : (M.bind m fun y => (M.throw ⟨x, [(f, toD y)]⟩ : M ρ)) N Q E) (hc : X.calm = true) (hg : Gl X x)
    (hdb : (x == ("__debug__" : Str)) = false := by decide) (hs : starEach (e :: []) X.env = (false, eval e X.env) :: starEach [] X.env := by rfl) (hpl : (backTo pos (starEach [] X.env)).any (·.1) = false := by rfl) :
    Sx X (.Raise (some (.Call (.Name x p) [e] [] pos)) none pos2 :: rest) σ H D := by
  obtain ⟨fd, ps, Fn, hb⟩ := T.f
  obtain ⟨fI, i1, i2, i3⟩ := T.c.init
  subst i3
  refine sx_ps (ps_raise hc cf.tk (pmkN T.c.x i1 i2 Fn hr hb hg T.g (pa_cons he.pe pa_nil hs) hdb hs hpl)) ?_
  refine tEv_mk cf.tk (Ex.refl F) cf.e cf.b hm cf.c.ex fun y N2 v F2 H2 q g b i => ⟨by show 1 ≤ 1000; decide, fun a na => ?_⟩
  refine ⟨a, He.ga X.K x, v, rfl, T.c.x, hno, upd_same, fun dx nd ne => ⟨rfl, .inr ⟨dx, [(f, v)], upd_same, by rw [upd_ne ne, upd_same], by rw [upd_ne ne] at nd; exact nd, ?_⟩⟩⟩
  have nd' : H2 dx = none := by rw [upd_ne ne] at nd; exact nd
  have e1 : upd (del (upd (upd (upd H2 a (exo a (He.ga X.K x) none)) dx (exd dx [(f, v)])) a (exo a (He.ga X.K x) (some dx))) a) dx (.xd [(f, v)]) = upd H2 dx (.xd [(f, v)]) := by
    funext b
    by_cases h1 : b = dx
    · rw [h1, upd_same, upd_same]
    · rw [upd_ne h1, upd_ne h1]
      by_cases h2 : b = a
      · rw [h2, del_same, na]
      · rw [del_ne h2, upd_ne h2, upd_ne h1, upd_ne h2]
  rw [e1]
  have g2 : Gd B.at_ F2 H2 (upd F2 dx (.xd [(f, v)])) (upd H2 dx (.xd [(f, v)])) := Gd.new g.sub nd'
  exact cf.c.ex ⟨x, [(f, toD y)]⟩ N2 _ _ _ _ q (g.trans g2) (b.new nd') ⟨rfl, .inr ⟨dx, [f], [v], rfl, upd_same, rfl, v, [], rfl, i.mono g2.f, rfl⟩⟩
end
end L3

set_option Elab.async false
set_option linter.all false
set_option maxRecDepth 100000
set_option maxHeartbeats 4000000
/-! What the top has left: facts by one run. -/
namespace L3
open PySem PySem.Spec PyProof.Rows L2 He
/-- the def behind a property's record, a classmethod's record -/
def recFn (K : PySem.W.Frag) (C : Str) (T : String) (m : Str) : Addr := match PySem.W.recIn K (ma K (ga K C) m) T with
  | some (.ref f :: _) => f
  | _ => 0
/-- one def: where it stands, its name, qualified name, parameters, body, scope, defaults -/
structure Df where
  adr : PySem.W.Frag → Addr
  name : Str
  qual : Str
  params : Arguments
  body : List Stmt
  scope : Scope
  dfl : List Dv := []
def atG (x : Str) : PySem.W.Frag → Addr := fun K => ga K x
def atM (C m : Str) : PySem.W.Frag → Addr := fun K => ma K (ga K C) m
def atP (C m : Str) : PySem.W.Frag → Addr := fun K => recFn K C "property" m
def atC (C m : Str) : PySem.W.Frag → Addr := fun K => recFn K C "classmethod" m
def Df.val (d : Df) : FnW := some (d.name, d.qual, d.params, .stmts d.body, d.scope, mainGlobals, [], builtinsNs)
def dfW (K : PySem.W.Frag) (a : Addr) : FnW := match K.lookup a with
  | some ⟨_, _, .func fd, _⟩ => some (fd.name, fd.qualname, fd.params, fd.body, fd.scope, fd.globals, fd.closure, fd.builtins)
  | _ => none
def Df.dvs (K : PySem.W.Frag) (d : Df) : List V := d.dfl.map (Dv.v K)
def Df.ok (K : PySem.W.Frag) (d : Df) : Bool := PySem.W.keepIn K (.ref (d.adr K)) && (match K.lookup (d.adr K) with
  | some ⟨_, _, .func fd, _⟩ => PySem.W.codeIn K fd.code d.qual && dflB K fd.defaults (d.dvs K)
  | _ => false)
theorem Df.funD {K : PySem.W.Frag} {d : Df} (e : dfW K (d.adr K) = d.val) (c : d.ok K = true) : ∃ fd, FunD K d.name d.qual d.params d.body d.scope (d.dvs K) [] (d.adr K) fd := by
  obtain ⟨kp, c2⟩ := ba c
  unfold dfW at e
  cases q : K.lookup (d.adr K) with
  | none =>
    rw [q] at c2
    cases c2
  | some o =>
    obtain ⟨oc, od, dt, osl⟩ := o
    rw [q] at c2 e
    cases dt with
    | func fd =>
      obtain ⟨n1, n2, n3, n4, n5, n6, n7, n8, n9, n10, n11, n12, n13, n14, n15⟩ := fd
      have e2 : (some (n1, n2, n3, n4, n5, n6, n7, n15) : FnW) = some (d.name, d.qual, d.params, .stmts d.body, d.scope, mainGlobals, [], builtinsNs) := e
      simp only [Option.some.injEq, Prod.mk.injEq] at e2
      obtain ⟨h1, h2, h3, h4, h5, h6, h7, h8⟩ := e2
      subst h1 h2 h3 h4 h5 h6 h7 h8
      have c3 : (PySem.W.codeIn K n13 d.qual && dflB K n8 (d.dvs K)) = true := c2
      obtain ⟨k1, k2⟩ := ba c3
      exact ⟨_, ⟨oc, od, n8, n9, n10, n11, n12, n13, n14, osl, rfl, q, k1, dflB_ok k2, .inl rfl⟩, kp⟩
    | _ => cases c2
abbrev Fc : Type := PySem.W.Frag → Bool
abbrev AlB : Type := Bool × List FnW
def obsB (fa : List Fc) (fn : List Df) (K : PySem.W.Frag) : AlB := ((fa.all fun f => f K) && fn.all fun d => d.ok K, fn.map fun d => dfW K (d.adr K))
def valB (fn : List Df) : AlB := (true, fn.map Df.val)
def SaysB (fa : List Fc) (fn : List Df) (K : PySem.W.Frag) : Prop := obsB fa fn K = valB fn
def asE (g : Addr → Option Obj) : Nat → List Addr
  | 0 => [mainGlobals, cStatics]
  | n + 1 => growD g (asE g n)
def obsBG (n : Nat) (fa : List Fc) (fn : List Df) (g : Addr → Option Obj) : AlB := obsB fa fn (frG g (asE g n))
def hookB (n : Nat) (fa : List Fc) (fn : List Df) : PySem.W.Hook where
  α := AlB
  obs := fun s => obsBG n fa fn s.heap.get?
  val := fun _ => valB fn
  says := fun _ h => ∃ K : PySem.W.Frag, K.In h ∧ SaysB fa fn K
  of := fun _ _ e => ⟨_, frG_in, e⟩
  keeps := fun _ _ _ ⟨K, hK, c⟩ k => ⟨K, PySem.W.Frag.In.keeps hK k, c⟩
theorem obsBG_eq {n : Nat} {fa : List Fc} {fn : List Df} {g : Addr → Option Obj} {s : Shared} (h : ∀ a, g a = s.heap.get? a) : obsBG n fa fn g = (hookB n fa fn).obs s := by
  have e : g = s.heap.get? := funext h
  rw [e] <;> rfl
section
variable {fa : List Fc} {fn : List Df} {K : PySem.W.Frag}
theorem SaysB.fact (c : SaysB fa fn K) (i : Nat) {f : Fc} (h : fa[i]? = some f := by rfl) : f K = true := by
  have c1 := (ba (show ((fa.all fun f => f K) && fn.all fun d => d.ok K) = true from congrArg (fun z : AlB => z.1) c)).1
  exact List.all_eq_true.mp c1 f (List.mem_of_getElem? h)
theorem SaysB.def_ (c : SaysB fa fn K) (i : Nat) {d : Df} (h : fn[i]? = some d := by rfl) : ∃ fd, FunD K d.name d.qual d.params d.body d.scope (d.dvs K) [] (d.adr K) fd := by
  have c2 := (ba (show ((fa.all fun f => f K) && fn.all fun d => d.ok K) = true from congrArg (fun z : AlB => z.1) c)).2
  have e : fn.map (fun d => dfW K (d.adr K)) = fn.map Df.val := congrArg (fun z : AlB => z.2) c
  have e2 : (fn.map fun d => dfW K (d.adr K))[i]? = (fn.map Df.val)[i]? := by rw [e]
  rw [List.getElem?_map, List.getElem?_map, h] at e2
  exact Df.funD (Option.some.inj e2) (List.all_eq_true.mp c2 d (List.mem_of_getElem? h))
end
/-! ### the facts -/
def fGlo (x : Str) : Fc := fun K => eqO (PySem.W.nsIn K mainGlobals x) (some (some (.ref (ga K x))))
def fFree (x : Str) : Fc := fun K => eqO (PySem.W.nsIn K mainGlobals x) (some none)
def fStr (x z : Str) : Fc := fun K => (Fa.str x z).ok K
def fInt (x : Str) (i : Int) : Fc := fun K => (Fa.int x i).ok K
def fCls (x : Str) : Fc := fun K => (Fa.cls x).ok K
def fNoat (x f : Str) : Fc := fun K => eqO (PySem.W.findIn K (.ref (ga K x)) f) (some none)
def fMeth (x m : Str) : Fc := fun K => (Fa.meth x m).ok K
def fMkr (x : Str) : Fc := fun K => (Fa.mkr x).ok K
def fProp (C f : Str) : Fc := fun K => eqO (PySem.W.findIn K (.ref (ga K C)) f) (some (some (.ref (ma K (ga K C) f)))) && (eqO (PySem.W.specialIn K (.ref (ma K (ga K C) f)) "__get__") (some (some (.builtin "property.__get__"))) &&
  (decide (PySem.W.takesIn K (.ref (ma K (ga K C) f)) = some true) && (match PySem.W.recIn K (ma K (ga K C) f) "property" with
    | some (.ref _ :: _) => true
    | _ => false)))
def fCmeth (C m : Str) : Fc := fun K => (match PySem.W.findCls K (.ref (ga K C)) (.type "type") m with
    | some (.get (.builtin g) (.ref p) .none (.ref D)) => decide (g = "classmethod.__get__") && (decide (p = ma K (ga K C) m) && decide (D = ga K C))
    | _ => false) && ((match PySem.W.recIn K (ma K (ga K C) m) "classmethod" with
    | some (.ref _ :: _) => true
    | _ => false) && PySem.W.fnIn K (recFn K C "classmethod" m))
def fRead (C : Str) : Fc := fun K => PySem.W.readsIn K (ga K C) (.type "type") && eqO (PySem.W.specialIn K (.ref (ga K C)) "__getattribute__") (some (some (.builtin "type.__getattribute__")))
def fInit (C : Str) : Fc := fun K => match PySem.W.findCls K (.ref (ga K C)) (.type "type") "__init__" with
    | some (.val (.builtin i)) => decide (i = "ValueError.__init__")
    | _ => false
def fFirst (C : Str) : Fc := fun K => PySem.W.selfFirst K (ga K C)
def fKeep (x : Str) : Fc := fun K => PySem.W.keepIn K (.ref (ga K x))
def fSub (x y : Str) (b : Bool) : Fc := fun K => decide (PySem.W.subIn K (.ref (ga K x)) (.ref (ga K y)) = some b)
def fExm (x y : Str) (b : Bool) : Fc := fun K => decide (PySem.W.exmOne K (.ref (ga K x)) (.ref (ga K y)) = some b)
/-- T is no subtype of C -/
def fTsub (T : String) (C : Str) : Fc := fun K => decide (PySem.W.subIn K (.type T) (.ref (ga K C)) = some false)
/-- what a built-in type has under a name is told -/
def fTy (T : String) (m : Str) : Fc := fun K => (PySem.W.findIn K (.type T) m).isSome
def refsB : List Value → Bool
  | .ref _ :: r => refsB r
  | l => decide (l = [.type "ValueError", .type "Exception", .type "BaseException", .type "object"])
theorem refsB_ok : ∀ l : List Value, refsB l = true → PySem.HandSPX.refsVE l = true
  | [], h => by cases h
  | .ref a :: r, h => by
    have h2 : refsB r = true := h
    exact refsB_ok r h2
  | .type t :: r, h => by
    have e : Value.type t :: r = [.type "ValueError", .type "Exception", .type "BaseException", .type "object"] := of_decide_eq_true h
    rw [e]
    decide
  | .none :: r, h => by cases (of_decide_eq_true h : _ = _)
  | .bool _ :: r, h => by cases (of_decide_eq_true h : _ = _)
  | .int _ _ :: r, h => by cases (of_decide_eq_true h : _ = _)
  | .float _ _ :: r, h => by cases (of_decide_eq_true h : _ = _)
  | .str _ _ :: r, h => by cases (of_decide_eq_true h : _ = _)
  | .bytes _ _ :: r, h => by cases (of_decide_eq_true h : _ = _)
  | .builtin _ :: r, h => by cases (of_decide_eq_true h : _ = _)
  | .notImplemented :: r, h => by cases (of_decide_eq_true h : _ = _)
  | .ellipsis :: r, h => by cases (of_decide_eq_true h : _ = _)
/-- an error class: its object, made by ValueError's maker -/
def fErr (x : Str) : Fc := fun K => (match K.lookup (ga K x) with
    | some ⟨.type c, _, .cls cd, sl⟩ => (match cd.mro, sl.toList with
      | .ref C' :: bm, [_, _, _, _, some (.builtin n), _] => decide (c = "type") && (decide (C' = ga K x) && (decide (n = "ValueError.__new__") && (!cd.hasDel && (cd.hasDict && refsB bm))))
      | _, _ => false)
    | _ => false) && (eqO (PySem.W.findIn K (.ref (ga K x)) "__setattr__") (some (some (.builtin "object.__setattr__"))) && (decide (PySem.W.subIn K (.ref (ga K x)) (.type "BaseException") = some true) &&
      (decide (PySem.W.typeIn K (.ref (ga K x)) = some (.type "type")) && (PySem.W.keepIn K (.ref (ga K x)) && (eqO (PySem.W.findIn K (.ref (ga K x)) "__init__") (some (some (.ref (ma K (ga K x) "__init__")))) &&
      decide (PySem.W.typeIn K (.ref (ma K (ga K x) "__init__")) = some (.type "function")))))))
section
variable {K : PySem.W.Frag} {h : Heap} {mg : Str → Option Value}
theorem fErr_ok {x : Str} (c : fErr x K = true) : ErrC K (ga K x) := by
  obtain ⟨c0, c⟩ := ba c
  obtain ⟨c1, c⟩ := ba c
  obtain ⟨c2, c⟩ := ba c
  obtain ⟨c3, c⟩ := ba c
  obtain ⟨c4, c⟩ := ba c
  obtain ⟨c5, c6⟩ := ba c
  refine ⟨⟨?_, eqO_ok c1, of_decide_eq_true c2, of_decide_eq_true c3, c4⟩, _, eqO_ok c5, of_decide_eq_true c6, rfl⟩
  cases q : K.lookup (ga K x) with
  | none => rw [q] at c0; cases c0
  | some o =>
    rw [q] at c0
    obtain ⟨oc, od, dt, sl⟩ := o
    cases oc with
    | type cc =>
      cases dt with
      | cls cd =>
        obtain ⟨nm, bs, mro, ns, qn, hd, sn, sb, ab, col, del⟩ := cd
        obtain ⟨sl⟩ := sl
        have c0' : (match (generalizing := false) mro, sl with
          | .ref C' :: bm, [_, _, _, _, some (.builtin n), _] => decide (cc = "type") && (decide (C' = ga K x) && (decide (n = "ValueError.__new__") && (!del && (hd && refsB bm))))
          | _, _ => false) = true := c0
        split at c0'
        · rename_i C' bm k0 k1 k2 k3 n k5
          obtain ⟨z1, z⟩ := ba c0'
          obtain ⟨z2, z⟩ := ba z
          obtain ⟨z3, z⟩ := ba z
          obtain ⟨z4, z⟩ := ba z
          obtain ⟨z5, z6⟩ := ba z
          have y1 := of_decide_eq_true z1
          have y2 := of_decide_eq_true z2
          have y3 := of_decide_eq_true z3
          subst y1 y2 y3
          have y4 : del = false := by cases del with | false => rfl | true => cases z4
          have y5 : hd = true := z5
          subst y4 y5
          exact ⟨nm, qn, ns, bs, _, sn, sb, ab, col, od, _, _, _, _, _, rfl, refsB_ok _ z6⟩
        · cases c0'
      | _ => cases c0
    | _ => cases dt <;> cases c0
theorem fGlo_ok (X : K.In h) (G : h.Ns mainGlobals mg) {x : Str} (c : fGlo x K = true) : mg x = some (.ref (ga K x)) := PySem.W.mg_of X G (eqO_ok c)
theorem fFree_ok (X : K.In h) (G : h.Ns mainGlobals mg) {x : Str} (c : fFree x K = true) : mg x = none := PySem.W.mg_none_of X G (eqO_ok c)
theorem fBase_ok {x : Str} (c1 : fRead x K = true) (c2 : fInit x K = true) : BaseC K (ga K x) := by
  obtain ⟨a, b⟩ := ba c1
  refine ⟨⟨a, eqO_ok b⟩, ?_⟩
  unfold fInit at c2
  split at c2
  · rename_i i e
    rw [e, of_decide_eq_true c2]
  · cases c2
theorem fProp_ok {C f : Str} (c : fProp C f K = true) : PropOf K (ga K C) f (ma K (ga K C) f) (recFn K C "property" f) := by
  obtain ⟨c1, c⟩ := ba c
  obtain ⟨c2, c⟩ := ba c
  obtain ⟨c3, c4⟩ := ba c
  refine ⟨eqO_ok c1, eqO_ok c2, of_decide_eq_true c3, ?_⟩
  unfold recFn
  split at c4
  · rename_i g rest e
    rw [e]
    exact ⟨rest, rfl⟩
  · cases c4
theorem fCmeth_ok {C m : Str} (c : fCmeth C m K = true) : ClX.CMet K (ga K C) (.type "type") m (ma K (ga K C) m) (recFn K C "classmethod" m) := by
  obtain ⟨c1, c⟩ := ba c
  obtain ⟨c2, c3⟩ := ba c
  refine ⟨?_, ?_, c3⟩
  · split at c1
    · rename_i g p D e
      obtain ⟨k1, k⟩ := ba c1
      obtain ⟨k2, k3⟩ := ba k
      rw [e, of_decide_eq_true k1, of_decide_eq_true k2, of_decide_eq_true k3]
    · cases c1
  · unfold recFn
    split at c2
    · rename_i g rest e
      rw [e]
      exact ⟨rest, rfl⟩
    · cases c2
end
end L3

set_option Elab.async false
set_option linter.all false
set_option maxRecDepth 100000
set_option maxHeartbeats 4000000
/-! Quotients: the mathematics, the class made and read. -/
namespace L3
open PySem PySem.Spec PyProof.Rows L2 ToD
/-! ### whole numbers, quotients -/
/-- the divisor that __init__ takes -/
def rdiv (t b : Int) : Int := if b < 0 then -(Int.gcd t b : Int) else (Int.gcd t b : Int)
theorem gcd_pos {t b : Int} (h : b ≠ 0) : 0 < Int.gcd t b := Nat.pos_of_ne_zero fun z => h (Int.gcd_eq_zero_iff.mp z).2
theorem rdiv_ne {t b : Int} (h : b ≠ 0) : rdiv t b ≠ 0 := by
  have := gcd_pos (t := t) h
  unfold rdiv
  split <;> omega
theorem rdiv_abs {t b : Int} : (rdiv t b).natAbs = Int.gcd t b := by
  unfold rdiv
  split <;> simp
theorem rdiv_num {t b : Int} (h : b ≠ 0) : t.fdiv (rdiv t b) = (Rat.divInt t b).num := by
  rw [Rat.num_divInt]
  unfold rdiv
  have g0 := gcd_pos (t := t) h
  rw [Int.gcd_comm b t]
  split
  · rename_i hb
    rw [Int.sign_eq_neg_one_of_neg hb]
    have : t.fdiv (-(Int.gcd t b : Int)) = (-t).fdiv (Int.gcd t b : Int) := by
      have := Int.neg_fdiv_neg t (-(Int.gcd t b : Int))
      rw [Int.neg_neg] at this
      exact this.symm
    rw [this, Int.fdiv_eq_ediv_of_nonneg _ (by omega)]
    congr 1
    omega
  · rename_i hb
    rw [Int.sign_eq_one_of_pos (by omega), Int.one_mul, Int.fdiv_eq_ediv_of_nonneg _ (by omega)]
theorem rdiv_den {t b : Int} (h : b ≠ 0) : b.fdiv (rdiv t b) = ((Rat.divInt t b).den : Int) := by
  rw [Rat.den_divInt, if_neg h]
  unfold rdiv
  have g0 := gcd_pos (t := t) h
  rw [Int.gcd_comm b t, Int.natCast_ediv]
  split
  · rename_i hb
    have : b.fdiv (-(Int.gcd t b : Int)) = (-b).fdiv (Int.gcd t b : Int) := by
      have := Int.neg_fdiv_neg b (-(Int.gcd t b : Int))
      rw [Int.neg_neg] at this
      exact this.symm
    rw [this, Int.fdiv_eq_ediv_of_nonneg _ (by omega)]
    congr 1
    omega
  · rename_i hb
    rw [Int.fdiv_eq_ediv_of_nonneg _ (by omega)]
    congr 1
    omega
theorem q_add (p q : Rat) : Rat.divInt (p.num * (q.den : Int) + q.num * (p.den : Int)) ((p.den : Int) * (q.den : Int)) = p + q := by
  rw [Rat.add_def', show (p.den : Int) * (q.den : Int) = ((p.den * q.den : Nat) : Int) by simp, Rat.divInt_ofNat]
theorem q_sub (p q : Rat) : Rat.divInt (p.num * (q.den : Int) - q.num * (p.den : Int)) ((p.den : Int) * (q.den : Int)) = p - q := by
  rw [Rat.sub_def', show (p.den : Int) * (q.den : Int) = ((p.den * q.den : Nat) : Int) by simp, Rat.divInt_ofNat]
theorem q_mul (p q : Rat) : Rat.divInt (p.num * q.num) ((p.den : Int) * (q.den : Int)) = p * q := by
  rw [Rat.mul_def', show (p.den : Int) * (q.den : Int) = ((p.den * q.den : Nat) : Int) by simp, Rat.divInt_ofNat]
theorem q_neg (p : Rat) : Rat.divInt (-p.num) (p.den : Int) = -p := by
  rw [Rat.divInt_ofNat, ← Rat.neg_mkRat, Rat.mkRat_self]
theorem q_over (p q : Rat) : Rat.divInt (p.num * (q.den : Int)) ((p.den : Int) * q.num) = p / q := by
  rw [Rat.div_def, Rat.inv_def, ← Rat.divInt_mul_divInt, Rat.num_divInt_den]
theorem q_int (i : Int) : Rat.divInt i 1 = (i : Rat) := by
  rw [Rat.divInt_eq_div]
  show (i : Rat) / ((1 : Int) : Rat) = i
  rw [Rat.intCast_one, Rat.div_def]
  have : (1 : Rat)⁻¹ = 1 := Rat.inv_eq_of_mul_eq_one (Rat.mul_one 1)
  rw [this, Rat.mul_one]
theorem q_den0 (p : Rat) : (p.den : Int) ≠ 0 := by
  have := p.den_pos
  omega
theorem q_eq (p q : Rat) : (decide (p.num = q.num) && decide ((p.den : Int) = (q.den : Int))) = decide (p = q) := by
  by_cases h : p = q
  · subst h; simp
  · rw [decide_eq_false h]
    cases e1 : decide (p.num = q.num) with
    | false => rfl
    | true =>
      cases e2 : decide ((p.den : Int) = (q.den : Int)) with
      | false => rfl
      | true =>
        have h1 := of_decide_eq_true e1
        have h2 := of_decide_eq_true e2
        exact absurd (Rat.ext h1 (by omega)) h

/-! ### the class -/
/-- what the divisor of a quotient in the making must keep to -/
def SzQ (t b : Int) : Prop := (Int.gcd t b).log2 < 9000
/-- t over b -/
def mkQ (t b : Int) : M Rat := cond (decide (b = 0)) (M.throw ⟨"ByZero", []⟩) (M.ask (SzQ t b) (M.pure (Rat.divInt t b)))
abbrev qC (K : PySem.W.Frag) : Addr := He.ga K "Ratio"
/-- __init__'s promise -/
def spRI (K : PySem.W.Frag) (B : Box) : Sp := fun vs H R Z => ∃ (F : Hp) (N : Nat) (p dx : Addr) (t b : Int), vs = [.ref p, .int t, .int b] ∧ Ex F H ∧ F p = none ∧ Bx B F H N ∧ B.at_ ≠ some p ∧ H p = some (.ins (qC K) dx []) ∧
  (b = 0 → ∀ cls d F2 H2, Gd B.at_ F H F2 H2 → Bx B F2 H2 N → IsE K B.at_ F2 H2 ⟨"ByZero", []⟩ cls d → Z cls d H2) ∧
  (b ≠ 0 → SzQ t b ∧ ∀ F2 H2, Gd B.at_ F H F2 H2 → Bx B F2 H2 N → R .non (upd H2 p (.ins (qC K) dx (ratF (Rat.divInt t b)))))
section
variable {X : Cx} {B : Box} {σ : L2.St} {F F1 H1 : Hp} {N : Nat} {E : Err → Nat → Prop} {W : WX} {pins : List (Addr × Obj)} {s : Shared} {α β γ : Type} [ToD α] [ToD β] [ToD γ]
  {e a b : Expr} {m : M α} {m1 : M α} {m2 : M β} {pos p : Pos} {x : Str} {C f : Addr} {k : Nat} {fd : FuncData} {ps : List Str} {sp : Sp} {dvs vs : List V} {ds us : List Value} {H : Hp}
/-- as run_make; what __init__ raises is wished for at these slots -/
theorem run_mk {Q : VK} (M : Mk X.K C f) (Fn : FnOk X.prog X.w X.K X.mg X.base (L2.CX X.prog X.w) k f fd ps sp) (hr : Room (k + 1) X.A) (hb : Binds X.K fd ps ds) (hd : Vals dvs ds) (tk : Takes X W)
    (I : Inv X pins σ H s) (r : Vals vs us)
    (h : ∀ x dx, H x = none → H dx = none → dx ≠ x → sp (.ref x :: (vs ++ dvs)) (upd (upd H dx (.own x)) x (.ins C dx [])) (fun v H2 => v = .non ∧ Q (.ref x) H2) (fun c d H' => W c d σ H')) :
    wpAny (model X.prog X.w) X.A (call (.ref C) us) (EP X pins σ Q) X.xe s := by
  have hq := h (s.heap.objs.size + 1) s.heap.objs.size (I.hok.fresh (Nat.le_succ _)) (I.hok.fresh (Nat.le_refl _)) (Nat.ne_of_lt (Nat.lt_succ_self _))
  have I2 := Inv.made (C := C) I
  have r2 : Vals (V.ref (s.heap.objs.size + 1) :: (vs ++ dvs)) (Value.ref (s.heap.objs.size + 1) :: (us ++ ds)) := .cons rfl (r.append hd)
  have hl : (Value.ref (s.heap.objs.size + 1) :: us ++ ds).length = ps.length := by
    have e := r2.length
    rw [Fn.len _ _ _ _ hq] at e
    exact e.symm
  refine wpAny_call (make_map (f := f) I.kIn M.makes M.init (beq_iff_eq.mp M.fn) (codeAny_mono (Fn.run _ X.stack _ _ ⟨Value.ref (s.heap.objs.size + 1) :: us, []⟩ (Value.ref (s.heap.objs.size + 1) :: (us ++ ds)) _ _ _ (hr.make C us [])
    (I2.env0.make C us []) (hb _ (Value.ref (s.heap.objs.size + 1) :: us) I2.kIn hl) r2 hq) fun r s' hq' => ?_))
  cases r with
  | error e => exact tk _ _ (XE.of_call I2 (fun _ _ _ h => h) hq')
  | ok fl =>
    cases fl with
    | ret u =>
      obtain ⟨v, H', I3, rv, ev, q3⟩ := I2.after hq'
      subst ev
      exact ⟨rv, ⟨V.ref (s.heap.objs.size + 1), H', I3, rfl, q3⟩⟩
    | next => exact False.elim hq'
    | brk => exact False.elim hq'
    | cont => exact False.elim hq'
/-- the class Ratio of the text, its parts -/
structure RatC (P : Program) (w : World) (K : PySem.W.Frag) (mg : Str → Option Value) (base : Heap) (B : Box) (lv : Nat) : Prop where
  g : mg "Ratio" = some (.ref (qC K))
  cl : Cls K (qC K)
  nT : NoAttr K (qC K) "own_top"
  nB : NoAttr K (qC K) "own_bottom"
  mkr : Mk K (qC K) (He.ma K (qC K) "__init__")
  ini : ∃ fd ds, FnOk P w K mg base (L2.CX P w) lv (He.ma K (qC K) "__init__") fd ["self", "top", "bottom"] (spRI K B) ∧ Binds K fd ["self", "top", "bottom"] [] ∧ Vals [.int 1] ds ∧ Binds K fd ["self", "top", "bottom"] ds
/-- what a promise of __init__ asks, from the way on -/
theorem spRI_of {t b : Int} {Q : Rat → Nat → Prop} {R : V → Hp → Prop} {Z : XK} {xx dx : Addr} (e : Ex F H) (bx : Bx B F H N) (hm : mkQ t b N Q E) (c : Ct X.K B F H Q E R Z) (n1 : H xx = none) (n2 : H dx = none) (ne : dx ≠ xx) :
    spRI X.K B [.ref xx, .int t, .int b] (upd (upd H dx (.own xx)) xx (.ins (qC X.K) dx [])) (fun v H2 => v = .non ∧ R (.ref xx) H2) Z := by
  have e1 : Ex H (upd (upd H dx (.own xx)) xx (.ins (qC X.K) dx [])) := ((Ex.refl H).updN n2).updN n1
  have g1 : Gd B.at_ F H F (upd (upd H dx (.own xx)) xx (.ins (qC X.K) dx [])) := Gd.of (Ex.refl F) e1 (e.trans e1) fun _ _ h => .inl h
  have b1 : Bx B F (upd (upd H dx (.own xx)) xx (.ins (qC X.K) dx [])) N := fun z hz => by
    obtain ⟨h1, ws, h2, h3⟩ := bx z hz
    exact ⟨h1, ws, e1 _ _ h2, h3⟩
  refine ⟨F, N, xx, dx, t, b, rfl, e.trans e1, e.none n1, b1, fun z => ?_, upd_same, fun hb cls d F2 H2 g2 b2 ie => ?_, fun hb => ?_⟩
  · obtain ⟨_, ws, h2, _⟩ := bx xx z
    rw [n1] at h2
    cases h2
  · unfold mkQ at hm
    rw [decide_eq_true hb] at hm
    exact c.ex _ N cls d F2 H2 hm (g1.trans g2) b2 ie
  · unfold mkQ at hm
    rw [decide_eq_false hb] at hm
    obtain ⟨h1, h2⟩ : SzQ t b ∧ Q (Rat.divInt t b) N := hm
    refine ⟨h1, fun F2 H2 g2 b2 => ⟨rfl, ?_⟩⟩
    have hx2 : H2 xx = some (.ins (qC X.K) dx []) := g2.h xx _ (fun z => by
      obtain ⟨_, ws, h2, _⟩ := bx xx z
      rw [n1] at h2
      cases h2) upd_same
    have fx2 : F2 xx = none := by
      cases q : F2 xx with
      | none => rfl
      | some o =>
        rcases g2.sep xx o q with z | z
        · rw [e.none n1] at z; cases z
        · rw [upd_same] at z; cases z
    have fin : Gd B.at_ F H (upd F2 xx (.ins (qC X.K) dx (ratF (Rat.divInt t b)))) (upd H2 xx (.ins (qC X.K) dx (ratF (Rat.divInt t b)))) := {
      h := fun z o hz q => by
        have : z ≠ xx := ne_of_none q n1
        rw [upd_ne this]
        exact g2.h z o hz (e1 z o q)
      f := g2.f.updN (e.none n1)
      sub := g2.sub.upd2
      sep := fun z o q => by
        by_cases hz : z = xx
        · exact .inr (hz ▸ n1)
        · rw [upd_ne hz] at q
          rcases g2.sep z o q with y | y
          · exact .inl y
          · exact .inr (e1.none y)
      live := fun z q => by
        by_cases hz : z = xx
        · rw [hz, upd_same] at q; cases q
        · rw [upd_ne hz] at q
          exact e1.none (g2.live z q) }
    refine c.ok (Rat.divInt t b) N _ _ _ h2 fin ?_ ⟨xx, dx, rfl, upd_same⟩
    exact fun z hz => by
      obtain ⟨h1, ws, h2, h3⟩ := b2 z hz
      have : z ≠ xx := fun y => by rw [y] at hz; obtain ⟨_, ws, h2, _⟩ := bx xx hz; rw [n1] at h2; cases h2
      exact ⟨by rw [upd_ne this]; exact h1, ws, by rw [upd_ne this]; exact h2, h3⟩
/-- Ratio(t, b) -/
theorem ev_ratio2 {lv : Nat} {m1 m2 : M Int} (T : RatC X.prog X.w X.K X.mg X.base B lv) (hr : Room (lv + 1) X.A) (ha : Ev X B a σ F m1) (hb : Ev X B b σ F m2) (hg : Gl X "Ratio" := by rfl)
    (hs : starEach (a :: [b]) X.env = (false, eval a X.env) :: starEach [b] X.env := by rfl) (hs2 : starEach (b :: []) X.env = (false, eval b X.env) :: starEach [] X.env := by rfl)
    (hpl : (backTo pos (starEach [b] X.env)).any (·.1) = false := by rfl) :
    Ev X B (.Call (.Name "Ratio" p) [a, b] [] pos) σ F (M.bind m1 fun t => M.bind m2 fun u => mkQ t u) := by
  refine ⟨fun F1 H1 N Q E R W pins s tk I e1 e2 bx hm c => ?_⟩
  obtain ⟨fd, ds, Fn, hbd, _, _⟩ := T.ini
  refine wpAny_Call_Name_kw (ld_glob I hg T.g ?_ (by decide))
  have args := (pa_cons (ha.pe) (pa_cons hb.pe pa_nil hs2) hs).run pos pins s σ H1 (fun vs H2 => ∀ x dx, H2 x = none → H2 dx = none → dx ≠ x → spRI X.K B (.ref x :: (vs ++ [])) (upd (upd H2 dx (.own x)) x (.ins (qC X.K) dx [])) (fun v H3 => v = .non ∧ R (.ref x) H3) (fun c d H' => W c d σ H')) I
    (tEv_mk tk e1 e2 bx hm c.ex fun t N2 v F2 H2 q g b2 i => tEv_mk tk (e1.trans g.f) g.sub b2 q (c.ex.mono g) fun u N3 v2 F3 H3 q3 g3 b3 i3 => by
      have j1 : v = .int t := i
      have j2 : v2 = .int u := i3
      subst j1 j2
      exact fun x dx n1 n2 ne => spRI_of g3.sub b3 q3 (c.mono (g.trans g3)) n1 n2 ne)
  refine PySem.W.callWith_K (h₀ := X.base) I.ok.mod.kin T.mkr.kp (thn args fun us s1 ⟨vs, H2, I2, r, q⟩ => ⟨I2.kIn, ?_⟩) hs hpl
  exact run_mk T.mkr Fn hr hbd .nil tk I2 r q
/-- Ratio(t) -/
theorem ev_ratio1 {lv : Nat} {m1 : M Int} (T : RatC X.prog X.w X.K X.mg X.base B lv) (hr : Room (lv + 1) X.A) (ha : Ev X B a σ F m1) (hg : Gl X "Ratio" := by rfl)
    (hs : starEach (a :: []) X.env = (false, eval a X.env) :: starEach [] X.env := by rfl) (hpl : (backTo pos (starEach [] X.env)).any (·.1) = false := by rfl) :
    Ev X B (.Call (.Name "Ratio" p) [a] [] pos) σ F (M.bind m1 fun t => M.pure (t : Rat)) := by
  refine ⟨fun F1 H1 N Q E R W pins s tk I e1 e2 bx hm c => ?_⟩
  obtain ⟨fd, ds, Fn, _, vd, hbd⟩ := T.ini
  refine wpAny_Call_Name_kw (ld_glob I hg T.g ?_ (by decide))
  have args := (pa_cons (ha.pe) pa_nil hs).run pos pins s σ H1 (fun vs H2 => ∀ x dx, H2 x = none → H2 dx = none → dx ≠ x → spRI X.K B (.ref x :: (vs ++ [.int 1])) (upd (upd H2 dx (.own x)) x (.ins (qC X.K) dx [])) (fun v H3 => v = .non ∧ R (.ref x) H3) (fun c d H' => W c d σ H')) I
    (tEv_mk tk e1 e2 bx hm c.ex fun t N2 v F2 H2 q g b2 i => by
      have j1 : v = .int t := i
      subst j1
      refine fun x dx n1 n2 ne => spRI_of (Q := Q) (N := N2) g.sub b2 ?_ (c.mono g) n1 n2 ne
      show mkQ t 1 N2 Q E
      unfold mkQ
      have d1 : decide ((1 : Int) = 0) = false := by decide
      rw [d1]
      refine ⟨?_, ?_⟩
      · show (Int.gcd t 1).log2 < 9000
        rw [Int.gcd_one]
        decide
      · rw [q_int]
        exact q)
  refine PySem.W.callWith_K (h₀ := X.base) I.ok.mod.kin T.mkr.kp (thn args fun us s1 ⟨vs, H2, I2, r, q⟩ => ⟨I2.kIn, ?_⟩) hs hpl
  exact run_mk T.mkr Fn hr hbd vd tk I2 r q
/-! ### read -/
theorem rat_at {q : Rat} {v : V} (i : Is X.K B.at_ F (toD q) v) : ∃ a dx, v = .ref a ∧ F a = some (.ins (qC X.K) dx (ratF q)) := i
theorem ratF_top (q : Rat) : (ratF q).lookup ("own_top" : Str) = some (.int q.num) := by unfold ratF; simp [List.lookup]
theorem ratF_bot (q : Rat) : (ratF q).lookup ("own_bottom" : Str) = some (.int (q.den : Int)) := by
  unfold ratF
  have h : (("own_bottom" : Str) == ("own_top" : Str)) = false := by decide
  simp [List.lookup, h]
theorem ratF_none (q : Rat) {m : Str} (h1 : (m == ("own_top" : Str)) = false) (h2 : (m == ("own_bottom" : Str)) = false) : (ratF q).lookup m = none := by
  unfold ratF
  simp [List.lookup, h1, h2]
end
end L3

set_option Elab.async false
set_option linter.all false
set_option maxRecDepth 100000
set_option maxHeartbeats 4000000
/-! isinstance; properties; own operators. -/
namespace L3
open PySem PySem.Spec PyProof.Rows L2 ToD
section
variable {X : Cx} {B : Box} {σ : L2.St} {F F1 H1 : Hp} {N : Nat} {E : Err → Nat → Prop} {W : WX} {pins : List (Addr × Obj)} {s : Shared} {α β γ : Type} [ToD α] [ToD β] [ToD γ]
  {e a b : Expr} {m : M α} {m1 : M α} {m2 : M β} {pos p : Pos}
/-- a built-in class by its name -/
theorem ev_ty {x : Str} {n : String} (hg : Gl X x) (hm : X.mg x = none) (hv : bootBuiltins x = some (.type n)) (hn : x ≠ "__name__" := by decide) (hd : (x == ("__debug__" : Str)) = false := by decide) : Ev X B (.Name x pos) σ F (M.pure (D.ty n)) :=
  ev_of_pe (pe_bltn hg hm hv (v := .ty n) rfl hn hd) fun F1 H1 R _ _ k => k _ rfl
/-- a class, a def of the text as a value -/
theorem ev_cl {x : Str} (hg : Gl X x) (hm : X.mg x = some (.ref (He.ga X.K x))) (hd : (x == ("__debug__" : Str)) = false := by decide) : Ev X B (.Name x pos) σ F (M.pure (D.cl x)) :=
  ev_of_pe (pe_glob hg hm (v := .ref (He.ga X.K x)) rfl hd) fun F1 H1 R _ _ k => k _ rfl
end
/-! ### isinstance -/
def tagOf : D → Option String
  | .non => some "NoneType"
  | .bool _ => some "bool"
  | .int _ => some "int"
  | .str _ => some "str"
  | .lst _ => some "list"
  | .tup _ => some "tuple"
  | .dK .. => some "dict"
  | .dT .. => some "dict"
  | _ => none
/-- the class of an instance -/
def insOf : D → Option Str
  | .rat _ => some "Ratio"
  | .ins C _ _ => some C
  | _ => none
def tags : List String := ["NoneType", "bool", "int", "str", "list", "tuple", "dict"]
theorem tag_in {d : D} {t : String} (h : tagOf d = some t) : t ∈ tags := by
  cases d <;> first | cases h | skip
  all_goals simp [tags]
theorem tags_kit : ∀ a ∈ tags, ∀ b ∈ tags, kitB a b = some (a == b || (a == "bool" && b == "int")) := by decide +kernel
/-- a class of the text whose instances isinstance may be asked of -/
structure InsC (K : PySem.W.Frag) (x : Str) : Prop where
  cl : Cls K (He.ga K x)
  ha : PySem.W.findIn K (.ref (He.ga K x)) "__class__" = some (some (.builtin "object.__class__"))
  hn : PySem.W.specialIn K (.builtin "object.__class__") "__get__" = some (some (.builtin "getset_descriptor.__get__"))
  tk : PySem.W.takesIn K (.builtin "object.__class__") = some true
  mo : PySem.W.mroIn K (He.ga K x) (.type "object") = some true
  to : ∀ t ∈ tags, PySem.W.kitOne K (.ref (He.ga K x)) (.type t) = some false
  of : ∀ t ∈ tags, PySem.W.kitOne K (.type t) (.ref (He.ga K x)) = some false
  self : PySem.W.kitOne K (.ref (He.ga K x)) (.ref (He.ga K x)) = some true
/-- a datum whose class is told; kn: the classes of the text that are known -/
def okD (kn : Str → Bool) : D → Bool
  | .rat _ => kn "Ratio"
  | .ins C _ _ => kn C && !decide (C = "Ratio")
  | d => (tagOf d).isSome
theorem okD_ins {kn : Str → Bool} {C : Str} {ns : List Str} {vs : List D} (h : okD kn (.ins C ns vs) = true) : kn C = true ∧ C ≠ "Ratio" := by
  obtain ⟨h1, h2⟩ := Bool.and_eq_true_iff.mp (show (kn C && !decide (C = "Ratio")) = true from h)
  exact ⟨h1, fun e => by rw [decide_eq_true e] at h2; cases h2⟩
theorem is_ty {K : PySem.W.Frag} {p : Option Addr} {F H : Hp} {d : D} {v : V} {t : String} (i : Is K p F d v) (e : Ex F H) (h : tagOf d = some t) : TyX K H v (.type t) := by
  cases d with
  | non => cases h; rw [show v = V.non from i]; exact .base .non
  | bool b => cases h; rw [show v = V.bl b from i]; exact .base (.bl b)
  | int b => cases h; rw [show v = V.int b from i]; exact .base (.int b)
  | str b => cases h; rw [show v = V.str b from i]; exact .base (.str b)
  | lst ds => cases h; obtain ⟨a, vs, rfl, h2, _⟩ := i; exact .base (.lst (e _ _ h2))
  | tup ds => cases h; obtain ⟨a, vs, rfl, h2, _⟩ := i; exact .base (.tup (e _ _ h2))
  | dK ks ds => cases h; obtain ⟨a, vs, rfl, h2, _⟩ := i; exact .base (.dK (e _ _ h2))
  | dT ks ds => cases h; obtain ⟨a, vs, rfl, h2, _⟩ := i; exact .base (.dT (e _ _ h2))
  | _ => cases h
theorem is_ins {K : PySem.W.Frag} {p : Option Addr} {F H : Hp} {d : D} {v : V} {C : Str} (i : Is K p F d v) (e : Ex F H) (h : insOf d = some C) (k : InsC K C) : TyX K H v (.ref (He.ga K C)) := by
  cases d with
  | rat q => cases h; obtain ⟨a, dx, rfl, h2⟩ := i; exact .base (.ins (e _ _ h2) k.cl k.ha k.hn k.tk k.mo)
  | ins C' ns ds => cases h; obtain ⟨a, dx, vs, rfl, h2, _⟩ := i; exact .base (.ins (e _ _ h2) k.cl k.ha k.hn k.tk k.mo)
  | _ => cases h
/-- isinstance(d, T), T a built-in class -/
def isiT (kn : Str → Bool) (T : String) (d : D) : M Bool := match tagOf d with
  | some t => M.pure (t == T || (t == "bool" && T == "int"))
  | none => match insOf d with
    | some C => M.ask (kn C = true) (M.pure false)
    | none => M.bad
/-- isinstance(d, x), x a class of the text -/
def isiC (kn : Str → Bool) (x : Str) (d : D) : M Bool := match tagOf d with
  | some _ => M.pure false
  | none => match insOf d with
    | some C => M.ask (kn C = true) (M.pure (decide (C = x)))
    | none => M.bad
/-- what is known of the classes -/
structure Kn (K : PySem.W.Frag) (kn : Str → Bool) : Prop where
  c : ∀ C, kn C = true → InsC K C
  apart : ∀ C C', kn C = true → kn C' = true → C ≠ C' → PySem.W.kitOne K (.ref (He.ga K C)) (.ref (He.ga K C')) = some false
section
variable {X : Cx} {B : Box} {kn : Str → Bool}
theorem opk_isiT {T : String} (hT : T ∈ tags) (k : Kn X.K kn) : CallM X.K B (fun p : D × D × Unit => [p.1, p.2.1]) (rIsi X.K) (fun p => match p.2.1 with | .ty t => M.ask (t = T) (isiT kn T p.1) | _ => M.bad) := fun x F H N Q E R Z vs e b i q c => by
  obtain ⟨d, y, u⟩ := x
  obtain ⟨v, r, rfl, h1, v2, r2, rfl, h3, h4⟩ := i
  have h5 : r2 = [] := h4
  subst h5
  cases y with
  | ty t =>
    obtain ⟨et, q⟩ : t = T ∧ isiT kn T d N Q E := q
    subst et
    have e2 : v2 = .ty t := h3
    subst e2
    unfold isiT at q
    cases ht : tagOf d with
    | some td =>
      rw [ht] at q
      exact ⟨v, .ty t, .type td, .type t, _, rfl, .ty t, is_ty h1 e ht, kit_ty (tags_kit td (tag_in ht) t hT), c.ok _ N _ F H q (Gd.refl e) b rfl⟩
    | none =>
      rw [ht] at q
      dsimp only at q
      cases hi : insOf d with
      | some C =>
        rw [hi] at q
        exact ⟨v, .ty t, .ref (He.ga X.K C), .type t, _, rfl, .ty t, is_ins h1 e hi (k.c C q.1), (k.c C q.1).to t hT, c.ok _ N _ F H q.2 (Gd.refl e) b rfl⟩
      | none =>
        rw [hi] at q
        exact q.elim
  | _ => exact False.elim q
theorem opk_isiC {x : Str} (hx : kn x = true) (k : Kn X.K kn) : CallM X.K B (fun p : D × D × Unit => [p.1, p.2.1]) (rIsi X.K) (fun p => match p.2.1 with | .cl t => M.ask (t = x) (isiC kn x p.1) | _ => M.bad) := fun z F H N Q E R Z vs e b i q c => by
  obtain ⟨d, y, u⟩ := z
  obtain ⟨v, r, rfl, h1, v2, r2, rfl, h3, h4⟩ := i
  have h5 : r2 = [] := h4
  subst h5
  cases y with
  | cl t =>
    obtain ⟨et, q⟩ : t = x ∧ isiC kn x d N Q E := q
    subst et
    have e2 : v2 = .ref (He.ga X.K t) := h3
    subst e2
    unfold isiC at q
    cases ht : tagOf d with
    | some td =>
      rw [ht] at q
      exact ⟨v, .ref (He.ga X.K t), .type td, .ref (He.ga X.K t), _, rfl, .own _, is_ty h1 e ht, (k.c t hx).of td (tag_in ht), c.ok _ N _ F H q (Gd.refl e) b rfl⟩
    | none =>
      rw [ht] at q
      dsimp only at q
      cases hi : insOf d with
      | some C =>
        rw [hi] at q
        refine ⟨v, .ref (He.ga X.K t), .ref (He.ga X.K C), .ref (He.ga X.K t), _, rfl, .own _, is_ins h1 e hi (k.c C q.1), ?_, c.ok (decide (C = t)) N _ F H q.2 (Gd.refl e) b rfl⟩
        by_cases hc : C = t
        · subst hc
          rw [decide_eq_true rfl]
          exact (k.c C hx).self
        · rw [decide_eq_false hc]
          exact k.apart C t q.1 hx hc
      | none =>
        rw [hi] at q
        exact q.elim
  | _ => exact False.elim q
variable {σ : L2.St} {F : Hp} {α : Type} [ToD α] {e a b c : Expr} {m : M D} {pos p p2 : Pos}
/-- isinstance(e, int) .. -/
theorem ev_isiT {T : String} {n : Str} (hT : T ∈ tags) (k : Kn X.K kn) (ha : Ev X B a σ F m) (hg : Gl X "isinstance") (hm : X.mg "isinstance" = none) (hg2 : Gl X n) (hm2 : X.mg n = none) (hv2 : bootBuiltins n = some (.type T))
    (hn : n ≠ "__name__" := by decide) (hd : (n == ("__debug__" : Str)) = false := by decide)
    (hs : starEach (a :: [Expr.Name n p2]) X.env = (false, eval a X.env) :: starEach [Expr.Name n p2] X.env := by rfl) (hs2 : starEach (Expr.Name n p2 :: []) X.env = (false, eval (Expr.Name n p2) X.env) :: starEach [] X.env := by rfl)
    (hpl : (backTo pos (starEach [Expr.Name n p2] X.env)).any (·.1) = false := by rfl) :
    Ev X B (.Call (.Name "isinstance" p) [a, .Name n p2] [] pos) σ F (M.bind m fun d => isiT kn T d) :=
  ev_imp (ev_callB call_isi hg hm (by decide +kernel) (eva_cons ha (eva_cons (ev_ty hg2 hm2 hv2 hn hd) eva_nil hs2) hs) (opk_isiT hT k) (by decide) (by decide) hs hpl) fun N Q E h => by
    show m N (fun d N => T = T ∧ isiT kn T d N Q E) E
    have : (fun d N => T = T ∧ isiT kn T d N Q E) = (fun d N => isiT kn T d N Q E) := by
      funext d N
      exact propext ⟨fun h => h.2, fun h => ⟨rfl, h⟩⟩
    rw [this]
    exact h
/-- isinstance(e, C), a class of the text -/
theorem ev_isiC {n : Str} (hT : kn n = true) (k : Kn X.K kn) (ha : Ev X B a σ F m) (hg : Gl X "isinstance") (hm : X.mg "isinstance" = none) (hg2 : Gl X n) (hm2 : X.mg n = some (.ref (He.ga X.K n)))
    (hd : (n == ("__debug__" : Str)) = false := by decide)
    (hs : starEach (a :: [Expr.Name n p2]) X.env = (false, eval a X.env) :: starEach [Expr.Name n p2] X.env := by rfl) (hs2 : starEach (Expr.Name n p2 :: []) X.env = (false, eval (Expr.Name n p2) X.env) :: starEach [] X.env := by rfl)
    (hpl : (backTo pos (starEach [Expr.Name n p2] X.env)).any (·.1) = false := by rfl) :
    Ev X B (.Call (.Name "isinstance" p) [a, .Name n p2] [] pos) σ F (M.bind m fun d => isiC kn n d) :=
  ev_imp (ev_callB call_isi hg hm (by decide +kernel) (eva_cons ha (eva_cons (ev_cl hg2 hm2 hd) eva_nil hs2) hs) (opk_isiC hT k) (by decide) (by decide) hs hpl) fun N Q E h => by
    show m N (fun d N => n = n ∧ isiC kn n d N Q E) E
    have : (fun d N => n = n ∧ isiC kn n d N Q E) = (fun d N => isiC kn n d N Q E) := by
      funext d N
      exact propext ⟨fun h => h.2, fun h => ⟨rfl, h⟩⟩
    rw [this]
    exact h
/-! ### a property of Ratio -/
structure PropC (P : Program) (w : World) (K : PySem.W.Frag) (mg : Str → Option Value) (base : Heap) (f own : Str) : Prop where
  cl : Cls K (qC K)
  pr : PropOf K (qC K) f (He.ma K (qC K) f) (recFn K "Ratio" "property" f)
  fn : ∃ fd, FnOk P w K mg base (L2.CX P w) 1 (recFn K "Ratio" "property" f) fd ["self"] (getSp (qC K) own) ∧ Binds K fd ["self"] []
theorem ev_qprop {f own : Str} {g : Rat → Int} {m : M Rat} (T : PropC X.prog X.w X.K X.mg X.base f own) (hl : ∀ q, (ratF q).lookup own = some (.int (g q))) (hr : Room 2 X.A) (ha : Ev X B a σ F m) (hab : attributeBase a f X.env (eval a X.env) = eval a X.env := by rfl) :
    Ev X B (.Attribute a f pos) σ F (M.bind m fun q => M.pure (g q)) := by
  refine ⟨fun F1 H1 N Q E R W pins s tk I e1 e2 bx hm c => ?_⟩
  obtain ⟨fd, Fn, hb⟩ := T.fn
  refine (pe_prop ha.pe T.cl T.pr Fn hr hb .nil passL hab).run pins s σ H1 R I (tEv_mk tk e1 e2 bx hm c.ex fun q N2 v F2 H2 h g2 b2 i => ?_)
  obtain ⟨a', dx, ev, fa⟩ := rat_at i
  exact ⟨a', dx, ratF q, ev, g2.sub _ _ fa, a', dx, ratF q, .int (g q), rfl, g2.sub _ _ fa, hl q, c.ok (g q) N2 _ F2 H2 h g2 b2 rfl⟩
/-! ### own operators -/
/-- a method of Ratio: self and one more -/
structure MetC (P : Program) (w : World) (K : PySem.W.Frag) (mg : Str → Option Value) (base : Heap) (B : Box) (name : Str) (lv : Nat) (ps : List Str) {A ρ : Type} [ToD ρ] (enc : A → List D) (mir : A → M ρ) : Prop where
  f : PySem.W.findIn K (.ref (qC K)) name = some (some (.ref (He.ma K (qC K) name)))
  i : PySem.W.isFn K (.ref (He.ma K (qC K) name)) = true
  k : PySem.W.keepIn K (.ref (He.ma K (qC K) name)) = true
  fn : ∃ fd, FnOk P w K mg base (L2.CX P w) lv (He.ma K (qC K) name) fd ps (spM K B enc mir) ∧ Binds K fd ps []
theorem MetC.meth {P : Program} {w : World} {K : PySem.W.Frag} {mg : Str → Option Value} {base : Heap} {B : Box} {name : Str} {lv : Nat} {ps : List Str} {A ρ : Type} [ToD ρ] {enc : A → List D} {mir : A → M ρ} (T : MetC P w K mg base B name lv ps enc mir) : Meth K (qC K) name (He.ma K (qC K) name) := ⟨T.f, T.i, T.k⟩
abbrev enc2 : Rat × D × Unit → List D := fun p => [.rat p.1, p.2.1]
abbrev enc1 : Rat × Unit → List D := fun p => [.rat p.1]
/-- the promise at two values -/
def rOwn2 (K : PySem.W.Frag) (B : Box) {ρ : Type} [ToD ρ] (mir : Rat × D × Unit → M ρ) : R2X := fun v u H R Z => ∃ a dx fs, v = .ref a ∧ H a = some (.ins (qC K) dx fs) ∧ ((∃ T : String, T ∈ tags ∧ TyX K H u (.type T)) ∨ ∃ b dy gs, u = .ref b ∧ H b = some (.ins (qC K) dy gs)) ∧ spM K B enc2 mir [v, u] H R Z
theorem opm_own {ρ : Type} [ToD ρ] {mir : Rat × D × Unit → M ρ} : ∀ (x : Rat) (y : α), OpM X.K B (rOwn2 X.K B mir) x y (M.ask ((tagOf (toD y)).isSome = true ∨ insOf (toD y) = some ("Ratio" : Str)) (mir (x, toD y, ()))) := fun x y F H N Q E R Z v u e b i1 i2 q c => by
  obtain ⟨a, dx, rfl, h⟩ := rat_at i1
  refine ⟨a, dx, _, rfl, e _ _ h, ?_, F, N, (x, toD y, ()), Q, E, e, b, ⟨_, _, rfl, i1, _, _, rfl, i2, rfl⟩, q.2, c⟩
  rcases q.1 with h | h
  · obtain ⟨t, ht⟩ := Option.isSome_iff_exists.mp h
    exact .inl ⟨t, tag_in ht, is_ty i2 e ht⟩
  · refine .inr ?_
    cases hy : toD y with
    | rat q =>
      rw [hy] at i2
      obtain ⟨b, dy, rfl, h2⟩ := i2
      exact ⟨b, dy, _, rfl, e _ _ h2⟩
    | ins C ns ds =>
      rw [hy] at i2 h
      cases (Option.some.inj h : C = "Ratio")
      obtain ⟨b, dy, vs, rfl, h2, _⟩ := i2
      exact ⟨b, dy, _, rfl, e _ _ h2⟩
    | _ => rw [hy] at h; cases h
/-- the callee runs, within a built-in's frame or not -/
theorem run_spA {k : Nat} {f : Addr} {fd : FuncData} {ps : List Str} {sp : Sp} {pins : List (Addr × Obj)} {s : Shared} {H : Hp} {W : WX} {R : VK} {us : List Value} {vs : List V} {A' : Around} (Fn : FnOk X.prog X.w X.K X.mg X.base (L2.CX X.prog X.w) k f fd ps sp) (hr : Room k A') (hb : Binds X.K fd ps [])
    (e0 : Env0 X.prog X.w X.K X.mg X.base A' X.stack s H) (tk : Takes X W) (I : Inv X pins σ H s) (r : Vals vs us) (h : sp vs H R (fun c d H' => W c d σ H')) : wpAny (model X.prog X.w) A' (call (.ref f) us) (EP X pins σ R) X.xe s := by
  have hl : (us ++ []).length = ps.length := by rw [List.append_nil, ← r.length]; exact Fn.len _ _ _ _ h
  have bb := hb s us I.kIn hl
  rw [List.append_nil] at bb
  refine wpAny_call (codeAny_mono (Fn.run A' X.stack s H ⟨us, []⟩ us vs R _ hr e0 bb r h) fun r s' hq => ?_)
  cases r with
  | error e => exact tk _ _ (XE.of_call I (fun _ _ _ h => h) hq)
  | ok fl =>
    cases fl with
    | ret u => exact I.after hq
    | next => exact False.elim hq
    | brk => exact False.elim hq
    | cont => exact False.elim hq
theorem cmpback {P : Value → Shared → Prop} {z : V} {v : Value} {s' : Shared} (r : RelV z v) (h : P v s') : PySem.W.CmpBack P v s' := by
  cases z with
  | non => cases (show v = Value.none from r); exact h
  | bl b => cases (show v = Value.bool b from r); exact h
  | int i => obtain ⟨t, e⟩ := (show ∃ t, v = Value.int i t from r); cases e; exact h
  | str x => obtain ⟨t, e⟩ := (show ∃ t, v = Value.str x t from r); cases e; exact h
  | byt b => obtain ⟨t, e⟩ := (show ∃ t, v = Value.bytes b t from r); cases e; exact h
  | flt b => obtain ⟨t, e⟩ := (show ∃ t, v = Value.float b t from r); cases e; exact h
  | ref a => cases (show v = Value.ref a from r); exact h
  | ty n => cases (show v = Value.type n from r); exact h
/-- the call of the method at two values -/
theorem run_own {ρ : Type} [ToD ρ] {mir : Rat × D × Unit → M ρ} {name : Str} {lv : Nat} {ps : List Str} {pins : List (Addr × Obj)} {s : Shared} {H : Hp} {W : WX} {R : VK} {v u : V} {x y : Value} {A' : Around}
    (T : MetC X.prog X.w X.K X.mg X.base B name lv ps enc2 mir) (hr : Room lv A') (e0 : Env0 X.prog X.w X.K X.mg X.base A' X.stack s H) (tk : Takes X W) (I : Inv X pins σ H s) (r1 : RelV v x) (r2 : RelV u y) (h : spM X.K B enc2 mir [v, u] H R (fun c d H' => W c d σ H')) :
    wpAny (model X.prog X.w) A' (call (.ref (He.ma X.K (qC X.K) name)) [x, y]) (EP X pins σ R) X.xe s := by
  obtain ⟨fd, Fn, hb⟩ := T.fn
  exact run_spA Fn hr hb e0 tk I (.cons r1 (.cons r2 .nil)) h
/-- what a binary operator of the class wants of the text -/
structure BinC (K : PySem.W.Frag) (nm : String) : Prop where
  first : PySem.W.selfFirst K (qC K) = true
  refl : PySem.W.findIn K (.ref (qC K)) (dunderR nm) = some none
  l : ∀ t ∈ tags, (PySem.W.findIn K (.type t) (PySem.dunder nm)).isSome = true
  r : ∀ t ∈ tags, (PySem.W.findIn K (.type t) (dunderR nm)).isSome = true
  sub : ∀ t ∈ tags, PySem.W.subIn K (.type t) (.ref (qC K)) = some false
/-- values that typeOf knows at once -/
def plainT : D → Bool
  | .non => true
  | .bool _ => true
  | .int _ => true
  | .str _ => true
  | _ => false
def rOwnB (K : PySem.W.Frag) (B : Box) {ρ : Type} [ToD ρ] (mir : Rat × D × Unit → M ρ) : R2X := fun v u H R Z => ∃ a dx fs, v = .ref a ∧ H a = some (.ins (qC K) dx fs) ∧ ((∃ i, u = .int i) ∨ ∃ b dy gs, u = .ref b ∧ H b = some (.ins (qC K) dy gs)) ∧ spM K B enc2 mir [v, u] H R Z
theorem opx_bin {op : Operator} {ρ : Type} [ToD ρ] {mir : Rat × D × Unit → M ρ} {lv : Nat} {ps : List Str} (T : MetC X.prog X.w X.K X.mg X.base B (PySem.dunder op.info.2) lv ps enc2 mir) (C : BinC X.K op.info.2) (hr : Room lv X.A) :
    OpX X (binaryOp op) (rOwnB X.K B mir) := by
  intro pins s σ H x y v u R W tk I r1 r2 h
  obtain ⟨a, dx, fs, rfl, ha, hu, hs⟩ := h
  have ev : v = Value.ref a := r1
  subst ev
  obtain ⟨mA, O, _⟩ := ins_get I.hok ha
  obtain ⟨od, J, _⟩ := O.look
  obtain ⟨m, hF⟩ := I.fr
  have go : wpAny (model X.prog X.w) X.A (call (.ref (He.ma X.K (qC X.K) (PySem.dunder op.info.2))) [.ref a, u]) (PySem.W.CmpBack (EP X pins σ R)) X.xe s :=
    thn (run_own (σ := σ) T hr I.env0 tk I (v := .ref a) rfl r2 hs) fun w s' hq => by
      obtain ⟨v', H', I', rv, q⟩ := hq
      exact cmpback rv ⟨v', H', I', rv, q⟩
  rcases hu with ⟨i, rfl⟩ | ⟨b, dy, gs, rfl, hb⟩
  · obtain ⟨t, rfl⟩ : ∃ t, u = Value.int i t := r2
    obtain ⟨fo, h1⟩ := Option.isSome_iff_exists.mp (C.l "int" (by simp [tags]))
    obtain ⟨ro, h2⟩ := Option.isSome_iff_exists.mp (C.r "int" (by simp [tags]))
    exact PySem.W.ksp_binT hF I.ok.mod.kin J (T := "int") rfl C.first T.f T.i C.refl (.inl rfl) h1 h2 (C.sub "int" (by simp [tags])) go
  · have eu : u = Value.ref b := r2
    subst eu
    obtain ⟨mB, O2, _⟩ := ins_get I.hok hb
    obtain ⟨od2, J2, _⟩ := O2.look
    exact PySem.W.binop_K hF I.ok.mod.kin J J2.type C.first T.f T.i go
theorem opm_bin {ρ : Type} [ToD ρ] {mir : Rat × D × Unit → M ρ} (y : α) (hy : (∃ i, toD y = .int i) ∨ ∃ q, toD y = .rat q) : ∀ (x : Rat), OpM X.K B (rOwnB X.K B mir) x y (mir (x, toD y, ())) := fun x F H N Q E R Z v u e b i1 i2 q c => by
  obtain ⟨a, dx, rfl, h⟩ := rat_at i1
  refine ⟨a, dx, _, rfl, e _ _ h, ?_, F, N, (x, toD y, ()), Q, E, e, b, ⟨_, _, rfl, i1, _, _, rfl, i2, rfl⟩, q, c⟩
  rcases hy with ⟨i, hy⟩ | ⟨q, hy⟩
  · rw [hy] at i2
    exact .inl ⟨i, i2⟩
  · rw [hy] at i2
    obtain ⟨b, dy, rfl, h2⟩ := i2
    exact .inr ⟨b, dy, _, rfl, e _ _ h2⟩
/-- ratio op number -/
theorem ev_binI {op : Operator} {ρ : Type} [ToD ρ] {mir : Rat × D × Unit → M ρ} {lv : Nat} {ps : List Str} {m1 : M Rat} {m2 : M Int} (T : MetC X.prog X.w X.K X.mg X.base B (PySem.dunder op.info.2) lv ps enc2 mir) (C : BinC X.K op.info.2) (hr : Room lv X.A)
    (ha : Ev X B a σ F m1) (hb : Ev X B b σ F m2) : Ev X B (.BinOp a op b pos) σ F (M.bind m1 fun x => M.bind m2 fun y => mir (x, .int y, ())) := ev_op (opx_bin T C hr) ha hb fun x y => opm_bin y (.inl ⟨y, rfl⟩) x
theorem ev_binQ {op : Operator} {ρ : Type} [ToD ρ] {mir : Rat × D × Unit → M ρ} {lv : Nat} {ps : List Str} {m1 m2 : M Rat} (T : MetC X.prog X.w X.K X.mg X.base B (PySem.dunder op.info.2) lv ps enc2 mir) (C : BinC X.K op.info.2) (hr : Room lv X.A)
    (ha : Ev X B a σ F m1) (hb : Ev X B b σ F m2) : Ev X B (.BinOp a op b pos) σ F (M.bind m1 fun x => M.bind m2 fun y => mir (x, .rat y, ())) := ev_op (opx_bin T C hr) ha hb fun x y => opm_bin y (.inr ⟨y, rfl⟩) x
/-- - ratio -/
theorem ev_qneg {mir : Rat × Unit → M Rat} {lv : Nat} {ps : List Str} {m : M Rat} (T : MetC X.prog X.w X.K X.mg X.base B "__neg__" lv ps enc1 mir) (hr : Room lv X.A) (ha : Ev X B a σ F m) :
    Ev X B (.UnaryOp .USub a pos) σ F (M.bind m fun x => mir (x, ())) := by
  refine ⟨fun F1 H1 N Q E R W pins s tk I e1 e2 bx hm c => ?_⟩
  refine UnaryOp_ (thn (ha.go tk I e1 e2 bx hm c.ex) fun u s1 ⟨v, H2, x, N2, F2, I2, r2, g2, b2, i2, q2⟩ => ?_)
  obtain ⟨a', dx, rfl, h⟩ := rat_at i2
  have eu : u = Value.ref a' := r2
  subst eu
  obtain ⟨mA, O, _⟩ := ins_get I2.hok (g2.sub _ _ h)
  obtain ⟨od, J, _⟩ := O.look
  obtain ⟨mm, hF⟩ := I2.fr
  obtain ⟨fd, Fn, hb⟩ := T.fn
  exact PySem.W.ksp_neg hF I2.ok.mod.kin J T.f T.i (run_spA (vs := [.ref a']) Fn hr hb I2.env0 tk I2 (.cons rfl .nil) ⟨F2, N2, (x, ()), Q, E, g2.sub, b2, ⟨_, _, rfl, i2, rfl⟩, q2, c.mono g2⟩)
/-! comparisons -/
theorem ty_looks {H : Hp} {x : V} {t : Value} {pins : List (Addr × Obj)} {s : Shared} {u : Value} (I : Inv X pins σ H s) (rx : RelV x u) (ty : TyX X.K H x t) : PySem.W.Looks (model X.prog X.w) s.heap (typeOf u) t := by
  obtain ⟨P, kx, hp, _⟩ := kit_of I rx ty
  exact kx.ty _ _ I.kIn hp
/-- what a comparison by the class's own method wants of the text -/
structure CmpC (K : PySem.W.Frag) : Prop where
  sub : ∀ t ∈ tags, PySem.W.subIn K (.type t) (.ref (qC K)) = some false
theorem opx_cmp {op : CmpOp} (hop : ∀ a b, compareOp op a b = richCompare op a b) {ρ : Type} [ToD ρ] {mir : Rat × D × Unit → M ρ} {lv : Nat} {ps : List Str} (T : MetC X.prog X.w X.K X.mg X.base B (cmpInfo op).2.1 lv ps enc2 mir) (C : CmpC X.K) (hr : Room lv X.A) :
    OpX X (compareOp op) (rOwn2 X.K B mir) := by
  intro pins s σ H x y v u R W tk I r1 r2 h
  obtain ⟨a, dx, fs, rfl, ha, hu, hs⟩ := h
  have ev : v = Value.ref a := r1
  subst ev
  obtain ⟨mA, O, _⟩ := ins_get I.hok ha
  obtain ⟨od, J, _⟩ := O.look
  obtain ⟨m, hF⟩ := I.fr
  have go : wpAny (model X.prog X.w) X.A (call (.ref (He.ma X.K (qC X.K) (cmpInfo op).2.1)) [.ref a, u]) (PySem.W.CmpBack (EP X pins σ R)) X.xe s :=
    thn (run_own (σ := σ) T hr I.env0 tk I (v := .ref a) rfl r2 hs) fun w s' hq => by
      obtain ⟨v', H', I', rv, q⟩ := hq
      exact cmpback rv ⟨v', H', I', rv, q⟩
  rw [hop]
  rcases hu with ⟨t, ht, ty⟩ | ⟨b, dy, gs, rfl, hb⟩
  · exact PySem.W.cmp_K (op := op) (tb := .type t) hr.units0 hF I.ok.mod.kin J (ty_looks I r2 ty) (by unfold PySem.W.notFirst; rw [C.sub t ht]; simp) T.f T.i go
  · have eu : u = Value.ref b := r2
    subst eu
    obtain ⟨mB, O2, _⟩ := ins_get I.hok hb
    obtain ⟨od2, J2, _⟩ := O2.look
    exact PySem.W.cmp_K (op := op) (tb := .ref (qC X.K)) hr.units0 hF I.ok.mod.kin J J2.type (by unfold PySem.W.notFirst; simp) T.f T.i go
/-! != by the own == -/
structure NeC (K : PySem.W.Frag) : Prop where
  ne : PySem.W.findIn K (.ref (qC K)) "__ne__" = some (some (.builtin "object.__ne__"))
  ob : PySem.W.mroIn K (qC K) (.type "object") = some true
theorem ne_K {prog : Program} {w : World} {A : Around} {E : Value → Shared → Prop} {s : Shared} {K : PySem.W.Frag} {x C f : Addr} {ox : Obj} {od : Option Obj} {b tb : Value} {Q : Value → Shared → Prop} (hu : A.units + 1 < cLine) (Xk : K.In s.heap) (I : PySem.W.InstAt s.heap x ox C od)
    (hb : PySem.W.Looks (model prog w) s.heap (typeOf b) tb) (hn : PySem.W.notFirst K C tb = true) (hne : PySem.W.findIn K (.ref C) "__ne__" = some (some (.builtin "object.__ne__"))) (hs : PySem.W.findIn K (.ref C) "__eq__" = some (some (.ref f))) (hf : PySem.W.isFn K (.ref f) = true)
    (sub : PySem.W.mroIn K C (.type "object") = some true) (h : wpAny (model prog w) A.in1 (call (.ref f) [.ref x, b]) (fun v s' => ∃ c, v = .bool c ∧ Q (.bool (!c)) s') E s) : wpAny (model prog w) A (richCompare .NotEq (.ref x) b) Q E s := by
  have SL := PySem.F.cmp_object.ne
  have isub : PySem.W.Looks (model prog w) s.heap (isInstance (.ref x) (.type "object")) true := I.type.andThen (PySem.W.looks_mroIn Xk sub)
  have inner : wpAny (model prog w) A.in1 (Builtin.«object.__ne__» ⟨[.ref x, b], []⟩) (fun fin s' => match fin with | .done (.ret v) => (∃ c, v = Value.bool c ∧ Q (.bool c) s') | _ => False) E s := by
    unfold Builtin.«object.__ne__»
    refine wpAny_bind (wpAny_of_eq (a := (.ref x, [b])) (by first | rfl | kernel_rfl) ?_)
    refine wpAny_bind (wpAny_cRoomFor (by exact hu) ?_)
    refine wpAny_bind (m := callSpecialIfBound? (.ref x) (Str.ofString "__eq__") [b]) (PySem.W.ifBound_K Xk I hs hf (wpAny_mono h (fun v s' hv => ?_) fun _ _ e => e))
    obtain ⟨c, rfl, q⟩ := hv
    refine wpAny_bind (wpAny_truthy_bool ?_)
    exact wpAny_pure ⟨!c, rfl, q⟩
  have one : wpAny (model prog w) A (tryCompare (.ref x) "__ne__" b) (fun r s' => ∃ v, r = some v ∧ Q v s') E s := by
    unfold tryCompare
    refine wpAny_bind ?_
    simp only [callSpecialIfBound?, bindSpecialIfBound?]
    refine wpAny_holding (wpAny_bind (wpAny_bind (wpAny_bind (I.type.here ((PySem.W.looks_findIn Xk hne).here ?_)))))
    have fin : wpAny (model prog w) A (call (.builtin "object.__ne__") ([.ref x] ++ [b]) >>= fun v => pure (some v)) (fun r s' => wpAny (model prog w) A (match r with | some .notImplemented | none => pure none | some v => pure (some v)) (fun r s' => ∃ v, r = some v ∧ Q v s') E s') E s := by
      refine wpAny_bind (wpAny_call (codeAny_call_builtin SL.plain PySem.F.cmpEntry_ne (PySem.W.check_slot PySem.F.cmpKind_ne PySem.F.cmpSplit_ne isub (PySem.F.cmpArgs_ne _ _) ?_)))
      refine wpAny_mono inner (fun fin s' hz => ?_) fun _ _ e => e
      cases fin with
      | done fl =>
        cases fl with
        | ret v =>
          obtain ⟨c, rfl, q⟩ := hz
          exact wpAny_pure (wpAny_pure ⟨_, rfl, q⟩)
        | _ => exact hz.elim
      | _ => exact hz.elim
    refine wpAny_bind (wpAny_askSetting (wpAny_ite ?_))
    split
    · exact wpAny_bind (wpAny_of_eq (SL.bind _) (wpAny_pure (by exact fin)))
    · exact wpAny_tryCatch (wpAny_bind (wpAny_of_eq (SL.bind _) (wpAny_pure (by exact fin))))
  unfold richCompare
  simp only [oneThing_ref]
  refine wpAny_holding (wpAny_bind (wpAny_cRoomFor (by omega) ?_))
  refine wpAny_bind (I.type.here (wpAny_bind (hb.here ?_)))
  split
  · rename_i q
    have e : PySem.W.subIn K tb (.ref C) = some false := by
      rcases Bool.or_eq_true_iff.mp hn with e | e
      · rw [beq_iff_eq.mp e] at q; simp at q
      · exact beq_iff_eq.mp e
    refine wpAny_bind ((PySem.W.looks_subIn Xk e).here ?_)
    simp only [Bool.false_eq_true, if_false]
    refine wpAny_bind (wpAny_mono one (fun r s' z => ?_) fun _ _ e => e)
    obtain ⟨v, rfl, hq⟩ := z
    exact wpAny_pure hq
  · refine wpAny_bind (wpAny_pure ?_)
    simp only [Bool.false_eq_true, if_false]
    refine wpAny_bind (wpAny_mono one (fun r s' z => ?_) fun _ _ e => e)
    obtain ⟨v, rfl, hq⟩ := z
    exact wpAny_pure hq
end
end L3

namespace L3
open PySem PySem.Spec PyProof.Rows L2 He
def fBin (nm : String) : Fc := fun K => PySem.W.selfFirst K (qC K) && (eqO (PySem.W.findIn K (.ref (qC K)) (dunderR nm)) (some none) && (tags.all (fun t => (PySem.W.findIn K (.type t) (PySem.dunder nm)).isSome) && (tags.all (fun t => (PySem.W.findIn K (.type t) (dunderR nm)).isSome) &&
  tags.all (fun t => decide (PySem.W.subIn K (.type t) (.ref (qC K)) = some false)))))
def fCmp : Fc := fun K => tags.all (fun t => decide (PySem.W.subIn K (.type t) (.ref (qC K)) = some false))
def fNe : Fc := fun K => eqO (PySem.W.findIn K (.ref (qC K)) "__ne__") (some (some (.builtin "object.__ne__"))) && decide (PySem.W.mroIn K (qC K) (.type "object") = some true)
def fIns (x : Str) : Fc := fun K => (Fa.cls x).ok K && (eqO (PySem.W.findIn K (.ref (ga K x)) "__class__") (some (some (.builtin "object.__class__"))) && (eqO (PySem.W.specialIn K (.builtin "object.__class__") "__get__") (some (some (.builtin "getset_descriptor.__get__"))) &&
  (decide (PySem.W.takesIn K (.builtin "object.__class__") = some true) && (decide (PySem.W.mroIn K (ga K x) (.type "object") = some true) && (tags.all (fun t => decide (PySem.W.kitOne K (.ref (ga K x)) (.type t) = some false)) &&
  (tags.all (fun t => decide (PySem.W.kitOne K (.type t) (.ref (ga K x)) = some false)) && decide (PySem.W.kitOne K (.ref (ga K x)) (.ref (ga K x)) = some true)))))))
section
variable {K : PySem.W.Frag}
theorem fBin_ok {nm : String} (c : fBin nm K = true) : BinC K nm := by
  obtain ⟨c1, c⟩ := ba c
  obtain ⟨c2, c⟩ := ba c
  obtain ⟨c3, c⟩ := ba c
  obtain ⟨c4, c5⟩ := ba c
  exact ⟨c1, eqO_ok c2, fun t ht => List.all_eq_true.mp c3 t ht, fun t ht => List.all_eq_true.mp c4 t ht, fun t ht => of_decide_eq_true (List.all_eq_true.mp c5 t ht)⟩
theorem fCmp_ok (c : fCmp K = true) : CmpC K := ⟨fun t ht => of_decide_eq_true (List.all_eq_true.mp c t ht)⟩
theorem fNe_ok (c : fNe K = true) : NeC K := by
  obtain ⟨c1, c2⟩ := ba c
  exact ⟨eqO_ok c1, of_decide_eq_true c2⟩
theorem fIns_ok {x : Str} (c : fIns x K = true) : InsC K x := by
  obtain ⟨c1, c⟩ := ba c
  obtain ⟨c2, c⟩ := ba c
  obtain ⟨c3, c⟩ := ba c
  obtain ⟨c4, c⟩ := ba c
  obtain ⟨c5, c⟩ := ba c
  obtain ⟨c6, c⟩ := ba c
  obtain ⟨c7, c8⟩ := ba c
  exact ⟨cls_ok c1, eqO_ok c2, eqO_ok c3, of_decide_eq_true c4, of_decide_eq_true c5, fun t ht => of_decide_eq_true (List.all_eq_true.mp c6 t ht), fun t ht => of_decide_eq_true (List.all_eq_true.mp c7 t ht), of_decide_eq_true c8⟩
end
end L3

set_option Elab.async false
set_option linter.all false
set_option maxRecDepth 100000
set_option maxHeartbeats 4000000
/-! Quotients in expressions. -/
namespace L3
open PySem PySem.Spec PyProof.Rows L2 ToD
section
variable {X : Cx} {B : Box} {σ : L2.St} {F F1 H1 : Hp} {N : Nat} {E : Err → Nat → Prop} {W : WX} {pins : List (Addr × Obj)} {s : Shared} {α β γ : Type} [ToD α] [ToD β] [ToD γ]
  {e a b : Expr} {m : M α} {m1 : M α} {m2 : M β} {pos p : Pos} {ρ : Type} [ToD ρ] {mir : Rat × D × Unit → M ρ} {lv : Nat} {ps : List Str} {whole : Sem Value}
/-- a datum beside which a comparison may be asked -/
def cmpOk (d : D) : Prop := (tagOf d).isSome = true ∨ insOf d = some ("Ratio" : Str)
theorem cmpOk_int {i : Int} : cmpOk (toD i) := .inl rfl
theorem cmpOk_rat {q : Rat} : cmpOk (toD q) := .inr rfl
theorem opm_ownT (y : α) (hy : cmpOk (toD y)) : ∀ (x : Rat), OpM X.K B (rOwn2 X.K B mir) x y (mir (x, toD y, ())) := fun x F H N Q E R Z v u e b i1 i2 q c => opm_own x y F H N Q E R Z v u e b i1 i2 ⟨hy, q⟩ c
def rNe2 (K : PySem.W.Frag) (B : Box) (mir : Rat × D × Unit → M Bool) : R2X := fun v u H R Z => rOwn2 K B mir v u H (fun z H' => ∃ c, z = .bl c ∧ R (.bl (!c)) H') Z
theorem opx_ne {mir : Rat × D × Unit → M Bool} (T : MetC X.prog X.w X.K X.mg X.base B "__eq__" lv ps enc2 mir) (C : CmpC X.K) (Cn : NeC X.K) (hr : Room (lv + 1) X.A) :
    OpX X (compareOp .NotEq) (rNe2 X.K B mir) := by
  intro pins s σ H x y v u R W tk I r1 r2 h
  obtain ⟨a, dx, fs, rfl, ha, hu, hs⟩ := h
  have ev : v = Value.ref a := r1
  subst ev
  obtain ⟨mA, O, _⟩ := ins_get I.hok ha
  obtain ⟨od, J, _⟩ := O.look
  have go : wpAny (model X.prog X.w) X.A.in1 (call (.ref (He.ma X.K (qC X.K) "__eq__")) [.ref a, u]) (fun v s' => ∃ c, v = .bool c ∧ EP X pins σ R (.bool (!c)) s') X.xe s :=
    thn (run_own (σ := σ) T hr.in1 I.env0.in1 tk I (v := .ref a) rfl r2 hs) fun w s' hq => by
      obtain ⟨v', H', I', rv, c, ev, q⟩ := hq
      subst ev
      exact ⟨c, rv, .bl (!c), H', I', rfl, q⟩
  show wpAny _ _ (richCompare .NotEq (.ref a) u) _ _ _
  have hu1 : X.A.units + 1 < cLine := by have := hr.units; omega
  rcases hu with ⟨t, ht, ty⟩ | ⟨b, dy, gs, rfl, hb⟩
  · exact ne_K hu1 I.kIn J (ty_looks I r2 ty) (by unfold PySem.W.notFirst; rw [C.sub t ht]; simp) Cn.ne T.f T.i Cn.ob go
  · have eu : u = Value.ref b := r2
    subst eu
    obtain ⟨mB, O2, _⟩ := ins_get I.hok hb
    obtain ⟨od2, J2, _⟩ := O2.look
    exact ne_K hu1 I.kIn J J2.type (by unfold PySem.W.notFirst; simp) Cn.ne T.f T.i Cn.ob go
theorem opm_ne2 {mir : Rat × D × Unit → M Bool} (y : α) (hy : cmpOk (toD y)) : ∀ (x : Rat), OpM X.K B (rNe2 X.K B mir) x y (M.bind (mir (x, toD y, ())) fun c => M.pure (!c)) := fun x F H N Q E R Z v u e b i1 i2 q c =>
  opm_ownT y hy x F H N _ E _ Z v u e b i1 i2 q ⟨fun z N2 w F2 H2 q2 g2 b2 i => ⟨z, i, c.ok (!z) N2 _ F2 H2 q2 g2 b2 rfl⟩, c.ex⟩
section
variable {op : CmpOp} {mb : Rat × D × Unit → M Bool} {m1 : M Rat} {m2 : M α}
theorem ev_qcmp (hop : ∀ a b, compareOp op a b = richCompare op a b) (T : MetC X.prog X.w X.K X.mg X.base B (cmpInfo op).2.1 lv ps enc2 mir) (C : CmpC X.K) (hr : Room lv X.A) (ha : Ev X B a σ F m1) (hb : Ev X B b σ F m2) (hy : ∀ y : α, cmpOk (toD y))
    (hk : behindInMarks op b = false) : Ev X B (.Compare a [op] [b] pos) σ F (M.bind m1 fun x => M.bind m2 fun y => mir (x, toD y, ())) := ev_cmp (opx_cmp hop T C hr) ha hb (fun x y => opm_ownT y (hy y) x) hk
theorem et_qcmp (hop : ∀ a b, compareOp op a b = richCompare op a b) (T : MetC X.prog X.w X.K X.mg X.base B (cmpInfo op).2.1 lv ps enc2 mb) (C : CmpC X.K) (hr : Room lv X.A) (ha : Ev X B a σ F m1) (hb : Ev X B b σ F m2) (hy : ∀ y : α, cmpOk (toD y))
    (hk : behindInMarks op b = false) : EtW X B (.Compare a [op] [b] pos) σ F whole (M.bind m1 fun x => M.bind m2 fun y => mb (x, toD y, ())) := et_cmp (opx_cmp hop T C hr) ha hb (fun x y => opm_ownT y (hy y) x) hk
theorem ev_qne (T : MetC X.prog X.w X.K X.mg X.base B "__eq__" lv ps enc2 mb) (C : CmpC X.K) (Cn : NeC X.K) (hr : Room (lv + 1) X.A) (ha : Ev X B a σ F m1) (hb : Ev X B b σ F m2) (hy : ∀ y : α, cmpOk (toD y)) :
    Ev X B (.Compare a [.NotEq] [b] pos) σ F (M.bind m1 fun x => M.bind m2 fun y => M.bind (mb (x, toD y, ())) fun c => M.pure (!c)) := ev_cmp (opx_ne T C Cn hr) ha hb (fun x y => opm_ne2 y (hy y) x) (nomark _)
theorem et_qne (T : MetC X.prog X.w X.K X.mg X.base B "__eq__" lv ps enc2 mb) (C : CmpC X.K) (Cn : NeC X.K) (hr : Room (lv + 1) X.A) (ha : Ev X B a σ F m1) (hb : Ev X B b σ F m2) (hy : ∀ y : α, cmpOk (toD y)) :
    EtW X B (.Compare a [.NotEq] [b] pos) σ F whole (M.bind m1 fun x => M.bind m2 fun y => M.bind (mb (x, toD y, ())) fun c => M.pure (!c)) := et_cmp (opx_ne T C Cn hr) ha hb (fun x y => opm_ne2 y (hy y) x) (nomark _)
end
/-- data of type α are instances of the class C, without an attribute m -/
def InstD (K : PySem.W.Frag) (α : Type) [ToD α] (C m : Str) : Prop := ∀ (p : Option Addr) (F : Hp) (x : α) (v : V), Is K p F (toD x) v → ∃ a dx fs, v = .ref a ∧ F a = some (.ins (He.ga K C) dx fs) ∧ fs.lookup m = none
theorem instD_rat {K : PySem.W.Frag} {m : Str} (h1 : (m == ("own_top" : Str)) = false) (h2 : (m == ("own_bottom" : Str)) = false) : InstD K Rat "Ratio" m := fun p F x v i => by
  obtain ⟨a, dx, rfl, h⟩ := i
  exact ⟨a, dx, _, rfl, h, ratF_none x h1 h2⟩
section
variable {A : Type} {enc : A → List D} {es : List Expr} {mr : M A} {name C : Str} {apos : Pos} {encM : α × A → List D} {mir : α × A → M ρ} {m : M α} {pl : Sem Bool} {k : Nat} {f : Addr} {fd : FuncData} {ps : List Str}
/-- o.m(e, ..) -/
theorem ev_meth (Fn : FnOk X.prog X.w X.K X.mg X.base (L2.CX X.prog X.w) k f fd ps (spM X.K B encM mir)) (bd : Binds X.K fd ps []) (mt : Meth X.K (He.ga X.K C) name f) (cl : Cls X.K (He.ga X.K C)) (hr : Room k X.A) (hi : InstD X.K α C name)
    (he : ∀ q a, encM (q, a) = toD q :: enc a) (ha : Ev X B a σ F m) (hb : EvA X B enc (b :: es) σ F mr)
    (ht : eval (.Call (.Attribute a name apos) (b :: es) [] pos) X.env = (do
      let ov ← eval a X.env
      standAt apos.atName
      let (f, first) ← holding [ov] (getMethod ov name pl)
      callWith pos f first (backTo pos (starEach (b :: es) X.env)) (backToKw pos (keywordEach [] X.env))) := by rfl)
    (hs : starEach (b :: es) X.env = (false, eval b X.env) :: starEach es X.env := by rfl) (hpl : (backTo pos (starEach es X.env)).any (·.1) = false := by rfl) :
    Ev X B (.Call (.Attribute a name apos) (b :: es) [] pos) σ F (M.bind m fun q => M.bind mr fun x => mir (q, x)) := by
  refine ⟨fun F1 H1 N Q E R W pins s tk I e1 e2 bx hm c => ?_⟩
  refine PySem.W.methodCall_KW (pl := pl) (thn (ha.go tk I e1 e2 bx hm c.ex) fun u s1 ⟨v, H2, q, N2, F2, I2, r2, g2, b2, i2, q2⟩ => ?_) ht
  obtain ⟨a', dx, fs, rfl, fa, l⟩ := hi _ _ _ _ i2
  obtain rfl : u = Value.ref a' := r2
  refine getmeth_ok I2 (g2.sub _ _ fa) cl mt l ?_
  refine PySem.W.callWith_K (first := [.ref a']) (h₀ := X.base) I2.ok.mod.kin mt.kp (thn (hb.pa.run pos pins s1 σ H2 (fun vs H3 => spM X.K B encM mir (.ref a' :: vs) H3 R (fun c d H' => W c d σ H')) I2
    (tEvA_mk tk (e1.trans g2.f) g2.sub b2 q2 (c.ex.mono g2) fun x N3 vs F3 H3 q3 g3 b3 i3 => ⟨F3, N3, (q, x), Q, E, g3.sub, b3, by rw [he]; exact ⟨_, _, rfl, i2.mono g3.f, i3⟩, q3, c.mono (g2.trans g3)⟩)) fun us s2 ⟨vs, H3, I3, r, q3⟩ => ⟨I3.kIn, ?_⟩) hs hpl
  exact run_spA (us := .ref a' :: us) (vs := .ref a' :: vs) Fn hr bd I3.env0 tk I3 (.cons rfl r) q3
/-- o.m() -/
theorem ev_meth0 {encM : α × Unit → List D} {mir : α × Unit → M ρ} (Fn : FnOk X.prog X.w X.K X.mg X.base (L2.CX X.prog X.w) k f fd ps (spM X.K B encM mir)) (bd : Binds X.K fd ps []) (mt : Meth X.K (He.ga X.K C) name f) (cl : Cls X.K (He.ga X.K C)) (hr : Room k X.A) (hi : InstD X.K α C name)
    (he : ∀ q, encM (q, ()) = [toD q]) (ha : Ev X B a σ F m)
    (ht : eval (.Call (.Attribute a name apos) [] [] pos) X.env = (do
      let ov ← eval a X.env
      standAt apos.atName
      let (f, first) ← holding [ov] (getMethod ov name pl)
      callWith pos f first (backTo pos (starEach [] X.env)) (backToKw pos (keywordEach [] X.env))) := by rfl) :
    Ev X B (.Call (.Attribute a name apos) [] [] pos) σ F (M.bind m fun q => mir (q, ())) := by
  refine ⟨fun F1 H1 N Q E R W pins s tk I e1 e2 bx hm c => ?_⟩
  refine PySem.W.methodCall_KW (pl := pl) (thn (ha.go tk I e1 e2 bx hm c.ex) fun u s1 ⟨v, H2, q, N2, F2, I2, r2, g2, b2, i2, q2⟩ => ?_) ht
  obtain ⟨a', dx, fs, rfl, fa, l⟩ := hi _ _ _ _ i2
  obtain rfl : u = Value.ref a' := r2
  refine getmeth_ok I2 (g2.sub _ _ fa) cl mt l ?_
  refine PySem.W.callWith_K0 I2.kIn mt.kp ?_
  exact run_spA (us := [.ref a']) (vs := [.ref a']) Fn hr bd I2.env0 tk I2 (.cons rfl .nil) ⟨F2, N2, (q, ()), Q, E, g2.sub, b2, by rw [he]; exact ⟨_, _, rfl, i2, rfl⟩, q2, c.mono g2⟩
end
end
end L3

set_option Elab.async false
set_option linter.all false
set_option maxRecDepth 100000
set_option maxHeartbeats 4000000
/-! Sequences of any data; joins. -/
namespace L3
open PySem PySem.Spec PyProof.Rows L2 ToD
/-- a tuple that is walked -/
structure Tp (α : Type) where
  l : List α
instance {α : Type} [ToD α] : ToD (Tp α) := ⟨fun t => .tup (t.l.map toD)⟩
theorem toD_listD (ds : List D) : toD ds = D.lst ds := by
  show D.lst (ds.map toD) = D.lst ds
  have : ds.map (toD : D → D) = ds := by
    have e : (toD : D → D) = id := rfl
    rw [e, List.map_id]
  rw [this]
theorem toD_tpD (ds : List D) : toD (Tp.mk ds) = D.tup ds := by
  show D.tup (ds.map toD) = D.tup ds
  have : ds.map (toD : D → D) = ds := by
    have e : (toD : D → D) = id := rfl
    rw [e, List.map_id]
  rw [this]
theorem isL_nth {K : PySem.W.Frag} {p : Option Addr} {F : Hp} {α : Type} [ToD α] (x : α) : ∀ (i : Nat) (ds : List D) (vs : List V), IsL K p F ds vs → ds[i]? = some (toD x) → ∃ v, vs[i]? = some v ∧ Is K p F (toD x) v := by
  intro i
  induction i with
  | zero =>
    intro ds vs h e
    cases ds with
    | nil => cases e
    | cons d ds =>
      obtain ⟨v, r, h1, h2, h3⟩ := h
      have e2 : d = toD x := Option.some.inj e
      subst h1
      exact ⟨v, rfl, e2 ▸ h2⟩
  | succ i ih =>
    intro ds vs h e
    cases ds with
    | nil => cases e
    | cons d ds =>
      obtain ⟨v, r, h1, h2, h3⟩ := h
      subst h1
      exact ih ds r h3 e
section
variable {X : Cx} {B : Box} {σ : L2.St} {F F1 H1 : Hp} {N : Nat} {E : Err → Nat → Prop} {W : WX} {pins : List (Addr × Obj)} {s : Shared} {α β γ : Type} [ToD α] [ToD β] [ToD γ]
  {e a b : Expr} {m : M α} {m1 : M α} {m2 : M β} {pos p : Pos}
/-- over a tuple -/
theorem evi_tup {ml : M (Tp α)} {tg l : Expr} (h : Ev X B l σ F ml) : EvI X B tg l σ F (M.bind ml fun t => M.pure t.l) := by
  refine ⟨_, pi_tup h.pe, fun F1 H1 N Q E W R tk e1 e2 b hm cx k => tEv_mk tk e1 e2 b hm cx fun xs N2 v F2 H2 q g b2 i => ?_⟩
  obtain ⟨a, vs, ev, hl, hi⟩ := id i
  refine ⟨a, ev, ⟨vs, .inl (.inl (g.sub _ _ hl))⟩, k xs.l N2 _ F2 H2 q g b2 ?_⟩
  have len : vs.length = xs.l.length := by rw [IsL.length hi, List.length_map]
  refine ⟨fun i F3 H e1 e2 hlt => ⟨vs, vs[i]'(by omega), .inl (.inl (e2 _ _ (e1 _ _ hl))), by simp [len, hlt]⟩, fun i F3 H v H' x e1 e2 hx y => ?_, fun i F3 H e1 e2 hle => ⟨vs, .inl (.inl (e2 _ _ (e1 _ _ hl))), by omega⟩⟩
  obtain ⟨rfl, y⟩ := y
  obtain ⟨v', hv, is⟩ := isL_nth x i _ vs hi (by rw [List.getElem?_map, hx]; rfl)
  have e := y vs (.inl (.inl (e2 _ _ (e1 _ _ hl))))
  rw [hv] at e
  cases e
  exact ⟨F3, Gd.refl e2, is.mono e1⟩
/-- any datum's own type forgotten -/
theorem ev_toD (h : Ev X B e σ F m) : Ev X B e σ F (M.bind m fun x => M.pure (toD x : D)) := ev_as h fun _ => rfl
theorem evi_nil {tg l : Expr} : EvI X B tg l σ F (M.bad : M (List α)) := ⟨fun _ _ _ => False, ⟨fun pins s σ H R I h => h.elim⟩, fun F1 H1 N Q E W R tk e1 e2 b hm cx k => hm.elim⟩
def isNumB : D → Bool
  | .int _ => true
  | .rat _ => true
  | _ => false
theorem isNumB_or {d : D} (h : isNumB d = true) : (∃ i, d = .int i) ∨ ∃ q, d = .rat q := by
  cases d with
  | int i => exact .inl ⟨i, rfl⟩
  | rat q => exact .inr ⟨q, rfl⟩
  | _ => cases h
/-- ratio op any number -/
theorem ev_binD {op : Operator} {ρ : Type} [ToD ρ] {mir : Rat × D × Unit → M ρ} {lv : Nat} {ps : List Str} {m1 : M Rat} {m2 : M D} (T : MetC X.prog X.w X.K X.mg X.base B (PySem.dunder op.info.2) lv ps enc2 mir) (C : BinC X.K op.info.2) (hr : Room lv X.A)
    (ha : Ev X B a σ F m1) (hb : Ev X B b σ F m2) : Ev X B (.BinOp a op b pos) σ F (M.bind m1 fun x => M.bind m2 fun y => M.ask (isNumB y = true) (mir (x, y, ()))) :=
  ev_op (opx_bin T C hr) ha hb fun x y F H N Q E R Z v u e b i1 i2 q c => opm_bin y (isNumB_or q.1) x F H N Q E R Z v u e b i1 i2 q.2 c
end
section
variable {X : Cx} {B : Box} {σ : L2.St} {F H F1 H1 : Hp} {N N1 : Nat} {ρ α β : Type} [ToD ρ] [ToD α] [ToD β] {Q : ρ → Nat → Prop} {E : Err → Nat → Prop} {R : V → Hp → Prop} {Z : XK} {D : Ends}
  {e a b : Expr} {m : M α} {pos p1 : Pos} {rest : List Stmt}
/-- several ways that meet again: S what they hand on -/
@[reducible] def M.joinK {S : Type} (ways : (S → M ρ) → M ρ) (k : S → M ρ) : M ρ := ways k
/-- if, both ways meet behind it -/
theorem sx_ifj {S : Type} {c : Expr} {sa sb : List Stmt} {mc : M Bool} {ka kb : (S → M ρ) → M ρ} {k : S → M ρ} (Rl : S → L2.St → Hp → Hp → Prop) (cf : Cf X B F H N Q E R Z) (hc : Et X B c σ F mc) (hm : (M.joinK (fun j => M.bind mc fun x => cond x (ka j) (kb j)) k) N Q E)
    (h1 : ∀ N1 F1 H1 (j : S → M ρ) (D' : Ends), ka j N1 Q E → Gd B.at_ F H F1 H1 → Cf X B F1 H1 N1 Q E R Z → D'.rt = D.rt → (∀ st σ' F' H' N', Rl st σ' F' H' → Cf X B F' H' N' Q E R Z → j st N' Q E → D'.nx σ' H') → Sx X sa σ H1 D')
    (h2 : ∀ N1 F1 H1 (j : S → M ρ) (D' : Ends), kb j N1 Q E → Gd B.at_ F H F1 H1 → Cf X B F1 H1 N1 Q E R Z → D'.rt = D.rt → (∀ st σ' F' H' N', Rl st σ' F' H' → Cf X B F' H' N' Q E R Z → j st N' Q E → D'.nx σ' H') → Sx X sb σ H1 D')
    (hk : ∀ st σ F H N, Rl st σ F H → Cf X B F H N Q E R Z → k st N Q E → Sx X rest σ H D) : Sx X (.If c sa sb pos :: rest) σ H D :=
  sx_if cf hc hm (fun N1 F1 H1 hm g cf => h1 N1 F1 H1 k _ hm g cf rfl fun st σ' F' H' N' r cf' q => hk st σ' F' H' N' r cf' q) fun N1 F1 H1 hm g cf => h2 N1 F1 H1 k _ hm g cf rfl fun st σ' F' H' N' r cf' q => hk st σ' F' H' N' r cf' q
end
end L3

set_option Elab.async false
set_option linter.all false
set_option maxRecDepth 100000
set_option maxHeartbeats 4000000
/-! try .. except. -/
namespace L3
open PySem PySem.Spec PyProof.Rows L2 ToD
/-- as Cf, in the body of a try: the slots stay what they are -/
structure CfT (X : Cx) (B : Box) {ρ : Type} [ToD ρ] (σ₀ : L2.St) (F H : Hp) (N : Nat) (Q : ρ → Nat → Prop) (E : Err → Nat → Prop) (R : V → Hp → Prop) (Z : XK) : Prop where
  tk : Takes X (fun c d σ H => σ = σ₀ ∧ Z c d H)
  e : Ex F H
  b : Bx B F H N
  c : Ct X.K B F H Q E R Z
/-- try: S is what goes on behind it; what h does must not raise -/
def M.tryK {S ρ : Type} (body : (S → M ρ) → M ρ) (sub : Str → Option Bool) (h : Err → (S → M ρ) → M ρ) (k : S → M ρ) : M ρ := fun N Q E =>
  body (fun s N' _ _ => k s N' Q E) N Q fun er N' => (sub er.cls = some true ∧ h er (fun s N'' _ _ => k s N'' Q E) N' Q fun _ _ => False) ∨ (sub er.cls = some false ∧ E er N')
section
variable {X : Cx} {B : Box} {σ : L2.St} {F H F1 H1 : Hp} {N N1 : Nat} {ρ α β : Type} [ToD ρ] [ToD α] [ToD β] {Q : ρ → Nat → Prop} {E : Err → Nat → Prop} {R : V → Hp → Prop} {Z : XK} {D : Ends}
  {e a b : Expr} {m : M α} {pos p1 : Pos} {rest : List Stmt}
theorem CfT.on (cf : CfT X B σ F H N Q E R Z) (g : Gd B.at_ F H F1 H1) (b : Bx B F1 H1 N1) : CfT X B σ F1 H1 N1 Q E R Z := ⟨cf.tk, g.sub, b, cf.c.mono g⟩
theorem CfT.ex (cf : CfT X B σ F H N Q E R Z) : CE X.K B F H E (fun c d H => σ = σ ∧ Z c d H) := fun er N cls d F2 H2 q g b i => ⟨rfl, cf.c.ex er N cls d F2 H2 q g b i⟩
theorem sxt_expr {k : α → M ρ} (cf : CfT X B σ F H N Q E R Z) (he : Ev X B e σ F m) (hm : (M.bind m k) N Q E)
    (next : ∀ x N1 F1 H1, k x N1 Q E → Gd B.at_ F H F1 H1 → CfT X B σ F1 H1 N1 Q E R Z → Sx X rest σ H1 D) (hs : swapsWith e none pos.line X.env = pure false := by rfl) : Sx X (.Expr e pos :: rest) σ H D :=
  sx_ps (ps_expr he.pe hs) (tEv_mk cf.tk (Ex.refl F) cf.e cf.b hm cf.ex fun x N2 v F2 H2 q g b i => next x N2 F2 H2 q g (cf.on g b))
theorem sxt_ret {m : M ρ} (cf : CfT X B σ F H N Q E R Z) (he : Ev X B e σ F m) (hm : m N Q E) (hD : D.rt = R) : Sx X (.Return (some e) pos :: rest) σ H D :=
  sx_ps (ps_ret he.pe) (tEv_mk cf.tk (Ex.refl F) cf.e cf.b hm cf.ex fun x N2 v F2 H2 q g b i => by
    show D.rt v H2
    rw [hD]
    exact cf.c.ok x N2 v F2 H2 q g b i)
theorem sxt_if {c : Expr} {sa sb : List Stmt} {mc : M Bool} {ka kb : M ρ} (cf : CfT X B σ F H N Q E R Z) (hc : Et X B c σ F mc) (hm : (M.bind mc fun x => cond x ka kb) N Q E)
    (h1 : ∀ N1 F1 H1, ka N1 Q E → Gd B.at_ F H F1 H1 → CfT X B σ F1 H1 N1 Q E R Z → Sx X sa σ H1 { D with nx := fun σ' H' => Sx X rest σ' H' D })
    (h2 : ∀ N1 F1 H1, kb N1 Q E → Gd B.at_ F H F1 H1 → CfT X B σ F1 H1 N1 Q E R Z → Sx X sb σ H1 { D with nx := fun σ' H' => Sx X rest σ' H' D }) : Sx X (.If c sa sb pos :: rest) σ H D :=
  sx_ps (ps_if hc.pt (tSx_pss sa) (tSx_pss sb)) (tEt_mk cf.tk (Ex.refl F) cf.e cf.b hm cf.ex fun x N2 F2 H2 q g b => by
    cases x with
    | true => exact h1 N2 F2 H2 q g (cf.on g b)
    | false => exact h2 N2 F2 H2 q g (cf.on g b))
def tbTry (X : Cx) (body : List Stmt) : WX → TS := fun W D σ' H' => ∀ (pn : List (Addr × Obj)) (xe : Value → Shared → Prop), Takes (X.tr pn xe) W → PassesOwn (model X.prog X.w) X.A X.env xe → Sx (X.tr pn xe) body σ' H' D
def tsTry (X : Cx) (sts : List Stmt) : Addr → Value → Option Addr → TS := fun a cls d D σ' H' => ∀ (oe : Obj) (pn : List (Addr × Obj)), Zc cls d oe → (∃ vs, oe.data = .fields vs) → Sx (X.suite a ((a, oe) :: pn)) sts σ' H' D
/-- try .. except x as n -/
theorem sx_try_as {S : Type} {x n : Str} {c : Value} {i : Nat} {body suite : List Stmt} {b₀ : Stmt} {np pos' : Pos} {mb : (S → M ρ) → M ρ} {sub : Str → Option Bool} {mh : Err → (S → M ρ) → M ρ} {k : S → M ρ} (Rl : S → L2.St → Hp → Hp → Prop)
    (cf : Cf X B F H N Q E R Z) (hsub : ∀ y b, sub y = some b → PySem.W.exmOne X.K (.ref (He.ga X.K y)) c = some b) (hm : (M.tryK mb sub mh k) N Q E) (hD : D.rt = R)
    (hb : ∀ (pn : List (Addr × Obj)) (xe : Value → Shared → Prop) (j : S → M ρ) (E1 : Err → Nat → Prop) (Z1 : XK) (D' : Ends), PassesOwn (model X.prog X.w) X.A X.env xe → CfT (X.tr pn xe) B σ F H N Q E1 R Z1 → mb j N Q E1 → D'.rt = R →
      (∀ s F' H' N', Rl s σ F' H' → Gd B.at_ F H F' H' → Bx B F' H' N' → j s N' Q E1 → D'.nx σ H') → Sx (X.tr pn xe) body σ H D')
    (hh : ∀ (a : Addr) (oe : Obj) (cls : Value) (d : Option Addr) (pn : List (Addr × Obj)) (er : Err) (N1 : Nat) (F1 H1 : Hp) (j : S → M ρ) (D' : Ends), IsE X.K B.at_ F1 H1 er cls d → Zc cls d oe → (∃ vs, oe.data = .fields vs) → Gd B.at_ F H F1 H1 → H1 a = none → sub er.cls = some true →
      Cf (X.suite a ((a, oe) :: pn)) B F1 H1 N1 Q (fun _ _ => False) R (fun _ _ _ => False) → mh er j N1 Q (fun _ _ => False) → D'.rt = R →
      (∀ s σ' F' H' N', Rl s (σ'.set i none) F' H' → Gd B.at_ F1 H1 F' H' → Bx B F' H' N' → j s N' Q (fun _ _ => False) → D'.nx σ' H') → Sx (X.suite a ((a, oe) :: pn)) (b₀ :: suite) (σ.set i (some (.ref a))) H1 D')
    (hk : ∀ s σ F H N, Rl s σ F H → Cf X B F H N Q E R Z → k s N Q E → Sx X rest σ H D)
    (hs : X.stack = X.env :: X.outer) (hf : X.env.frame = some X.env.locals) (hN : X.N.Nodup) (hi : X.N[i]? = some n) (hln : X.env.kindOf n = some .local) (hc : Names X x c) :
    Sx X (.Try body [.ExceptHandler (some (.Name x np)) (some n) (b₀ :: suite) pos'] [] [] pos :: rest) σ H D := by
  refine sx_ps (ps_try_as (tb := tbTry X body) (ts := tsTry X (b₀ :: suite)) hs hf hN hi hln hc cf.tk
    (fun W pn xe tk po => ⟨fun pins s σ H D I h => (h pn xe tk po).run pins s I⟩) (fun a oe cls d pn hz hfl => ⟨fun pins s σ H D I h => (h oe pn hz hfl).run pins s I⟩)) ?_
  intro pn xe tkB po
  refine hb pn xe _ _ (fun cls d H' => wAs X.K c i (tsTry X (b₀ :: suite)) (fun c d _ H => Z c d H) { D with nx := fun σ' H' => Sx X rest σ' H' D } cls d σ H') _ po ⟨tkB.imp (fun c d σ' H' q => q.1 ▸ q.2), cf.e, cf.b, ⟨cf.c.ok, ?_⟩⟩ hm hD ?_
  · intro er N1 cls d F2 H2 q g b ie
    rcases q with ⟨h1, h2⟩ | ⟨h1, h2⟩
    · refine ⟨true, by rw [ie.1]; exact hsub _ _ h1, fun _ a na oe pn' hz hfl => ?_, fun z => by cases z⟩
      refine hh a oe cls d pn' er N1 F2 H2 _ _ ie hz hfl g na h1 ⟨fun u s' ⟨_, _, _, _, _, _, _, _, _, _, _, _, _, _, _, _, z⟩ => z.elim, g.sub, b, ⟨(cf.c.mono g).ok, fun er N cls d F3 H3 z => z.elim⟩⟩ h2 hD fun s σ' F' H' N' r g' b' q' => ?_
      exact hk s _ F' H' N' r (cf.on (g.trans g') b') q'
    · exact ⟨false, by rw [ie.1]; exact hsub _ _ h1, (fun z => by cases z), fun _ => cf.c.ex er N1 cls d F2 H2 h2 g b ie⟩
  · exact fun s F' H' N' r g b q => hk s σ F' H' N' r (cf.on g b) q
/-- try .. except x -/
theorem sx_try_only {S : Type} {x : Str} {c : Value} {body suite : List Stmt} {b₀ : Stmt} {np pos' : Pos} {mb : (S → M ρ) → M ρ} {sub : Str → Option Bool} {mh : Err → (S → M ρ) → M ρ} {k : S → M ρ} (Rl : S → L2.St → Hp → Hp → Prop)
    (cf : Cf X B F H N Q E R Z) (hsub : ∀ y b, sub y = some b → PySem.W.exmOne X.K (.ref (He.ga X.K y)) c = some b) (hm : (M.tryK mb sub mh k) N Q E) (hD : D.rt = R)
    (hb : ∀ (pn : List (Addr × Obj)) (xe : Value → Shared → Prop) (j : S → M ρ) (E1 : Err → Nat → Prop) (Z1 : XK) (D' : Ends), PassesOwn (model X.prog X.w) X.A X.env xe → CfT (X.tr pn xe) B σ F H N Q E1 R Z1 → mb j N Q E1 → D'.rt = R →
      (∀ s F' H' N', Rl s σ F' H' → Gd B.at_ F H F' H' → Bx B F' H' N' → j s N' Q E1 → D'.nx σ H') → Sx (X.tr pn xe) body σ H D')
    (hh : ∀ (a : Addr) (oe : Obj) (cls : Value) (d : Option Addr) (pn : List (Addr × Obj)) (er : Err) (N1 : Nat) (F1 H1 : Hp) (j : S → M ρ) (D' : Ends), IsE X.K B.at_ F1 H1 er cls d → Zc cls d oe → (∃ vs, oe.data = .fields vs) → Gd B.at_ F H F1 H1 → H1 a = none → sub er.cls = some true →
      Cf (X.suite a ((a, oe) :: pn)) B F1 H1 N1 Q (fun _ _ => False) R (fun _ _ _ => False) → mh er j N1 Q (fun _ _ => False) → D'.rt = R →
      (∀ s σ' F' H' N', Rl s σ' F' H' → Gd B.at_ F1 H1 F' H' → Bx B F' H' N' → j s N' Q (fun _ _ => False) → D'.nx σ' H') → Sx (X.suite a ((a, oe) :: pn)) (b₀ :: suite) σ H1 D')
    (hk : ∀ s σ F H N, Rl s σ F H → Cf X B F H N Q E R Z → k s N Q E → Sx X rest σ H D)
    (hs : X.stack = X.env :: X.outer) (hf : X.env.frame = some X.env.locals) (hc : Names X x c) :
    Sx X (.Try body [.ExceptHandler (some (.Name x np)) none (b₀ :: suite) pos'] [] [] pos :: rest) σ H D := by
  refine sx_ps (ps_try_only (tb := tbTry X body) (ts := tsTry X (b₀ :: suite)) hs hf hc cf.tk
    (fun W pn xe tk po => ⟨fun pins s σ H D I h => (h pn xe tk po).run pins s I⟩) (fun a oe cls d pn hz hfl => ⟨fun pins s σ H D I h => (h oe pn hz hfl).run pins s I⟩)) ?_
  intro pn xe tkB po
  refine hb pn xe _ _ (fun cls d H' => wOnly X.K c (tsTry X (b₀ :: suite)) (fun c d _ H => Z c d H) { D with nx := fun σ' H' => Sx X rest σ' H' D } cls d σ H') _ po ⟨tkB.imp (fun c d σ' H' q => q.1 ▸ q.2), cf.e, cf.b, ⟨cf.c.ok, ?_⟩⟩ hm hD ?_
  · intro er N1 cls d F2 H2 q g b ie
    rcases q with ⟨h1, h2⟩ | ⟨h1, h2⟩
    · refine ⟨true, by rw [ie.1]; exact hsub _ _ h1, fun _ a na oe pn' hz hfl => ?_, fun z => by cases z⟩
      refine hh a oe cls d pn' er N1 F2 H2 _ _ ie hz hfl g na h1 ⟨fun u s' ⟨_, _, _, _, _, _, _, _, _, _, _, _, _, _, _, _, z⟩ => z.elim, g.sub, b, ⟨(cf.c.mono g).ok, fun er N cls d F3 H3 z => z.elim⟩⟩ h2 hD fun s σ' F' H' N' r g' b' q' => ?_
      exact hk s _ F' H' N' r (cf.on (g.trans g') b') q'
    · exact ⟨false, by rw [ie.1]; exact hsub _ _ h1, (fun z => by cases z), fun _ => cf.c.ex er N1 cls d F2 H2 h2 g b ie⟩
  · exact fun s F' H' N' r g b q => hk s σ F' H' N' r (cf.on g b) q
end
end L3

set_option Elab.async false
set_option linter.all false
set_option maxRecDepth 100000
set_option maxHeartbeats 4000000
/-! Plain data: read, shown, compared; an error's attribute; defs that run where no guard is known. -/
namespace L3
open PySem PySem.Spec PyProof.Rows L2 ToD
mutual
/-- data of none, bools, ints, texts, lists, tuples -/
def seqD : D → Bool
  | .non => true
  | .bool _ => true
  | .int _ => true
  | .str _ => true
  | .lst ds => seqL ds
  | .tup ds => seqL ds
  | _ => false
def seqL : List D → Bool
  | [] => true
  | d :: ds => seqD d && seqL ds
end
mutual
def pyD : D → PyData
  | .bool b => .bool b
  | .int i => .int i
  | .str s => .str s
  | .lst ds => .list (pyL ds)
  | .tup ds => .tuple (pyL ds)
  | .dK [] [] => .dict []
  | _ => .none
def pyL : List D → List PyData
  | [] => []
  | d :: ds => pyD d :: pyL ds
end
mutual
theorem is_dp {K : PySem.W.Frag} {p : Option Addr} {F H : Hp} (e : Ex F H) : ∀ (d : D) (v : V), seqD d = true → Is K p F d v → Dp K H v (pyD d)
  | .non, _, _, h => by
    rw [show _ = V.non from h]
    exact .non
  | .bool b, _, _, h => by
    rw [show _ = V.bl b from h]
    exact .bl b
  | .int b, _, _, h => by
    rw [show _ = V.int b from h]
    exact .int b
  | .str b, _, _, h => by
    rw [show _ = V.str b from h]
    exact .str b
  | .lst ds, _, hs, h => by
    obtain ⟨a, vs, rfl, h2, h3⟩ := h
    exact .lst (.inl (.inl (e _ _ h2))) (is_dpL e ds vs hs h3)
  | .tup ds, _, hs, h => by
    obtain ⟨a, vs, rfl, h2, h3⟩ := h
    exact .tup (.inl (.inl (e _ _ h2))) (is_dpL e ds vs hs h3)
  | .scr _, _, hs, _ => by cases hs
  | .box, _, hs, _ => by cases hs
  | .ty _, _, hs, _ => by cases hs
  | .cl _, _, hs, _ => by cases hs
  | .rat _, _, hs, _ => by cases hs
  | .dK _ _, _, hs, _ => by cases hs
  | .dT _ _, _, hs, _ => by cases hs
  | .ins _ _ _, _, hs, _ => by cases hs
theorem is_dpL {K : PySem.W.Frag} {p : Option Addr} {F H : Hp} (e : Ex F H) : ∀ (ds : List D) (vs : List V), seqL ds = true → IsL K p F ds vs → DpAll K H vs (pyL ds)
  | [], _, _, h => by
    rw [show _ = [] from h]
    exact .nil
  | d :: ds, _, hs, h => by
    obtain ⟨v, r, rfl, h1, h2⟩ := h
    obtain ⟨s1, s2⟩ := Bool.and_eq_true_iff.mp (show (seqD d && seqL ds) = true from hs)
    exact .cons (is_dp e d v s1 h1) (is_dpL e ds r s2 h2)
end
/-! ### == of plain data -/
def eqOk (d : D) : Bool := seqD d && SeqAt.shaped (pyD d)
section
variable {X : Cx} {B : Box} {σ : L2.St} {F F1 H1 : Hp} {N : Nat} {E : Err → Nat → Prop} {W : WX} {pins : List (Addr × Obj)} {s : Shared} {α β γ : Type} [ToD α] [ToD β] [ToD γ]
  {e a b : Expr} {m : M α} {m1 : M α} {m2 : M β} {pos p : Pos} {whole : Sem Value}
theorem opm_eqD : ∀ (x : α) (y : β), OpM X.K B (rX (rEqD X.K)) x y (M.ask (eqOk (toD x) = true ∧ eqOk (toD y) = true) (M.pure (PyData.eqv (pyD (toD x)) (pyD (toD y))))) := fun x y F H N Q E R Z v u e b i1 i2 q c => by
  obtain ⟨⟨h1, h2⟩, q⟩ := q
  obtain ⟨s1, t1⟩ := Bool.and_eq_true_iff.mp h1
  obtain ⟨s2, t2⟩ := Bool.and_eq_true_iff.mp h2
  exact ⟨_, _, is_dp e _ _ s1 i1, is_dp e _ _ s2 i2, t1, t2, c.ok _ N _ F H q (Gd.refl e) b rfl⟩
theorem opm_neD : ∀ (x : α) (y : β), OpM X.K B (rX (rNeD X.K)) x y (M.ask (eqOk (toD x) = true ∧ eqOk (toD y) = true) (M.pure (!PyData.eqv (pyD (toD x)) (pyD (toD y))))) := fun x y F H N Q E R Z v u e b i1 i2 q c => by
  obtain ⟨⟨h1, h2⟩, q⟩ := q
  obtain ⟨s1, t1⟩ := Bool.and_eq_true_iff.mp h1
  obtain ⟨s2, t2⟩ := Bool.and_eq_true_iff.mp h2
  exact ⟨_, _, is_dp e _ _ s1 i1, is_dp e _ _ s2 i2, t1, t2, c.ok _ N _ F H q (Gd.refl e) b rfl⟩
theorem ev_eqD (hu : X.A.units + 200 < cLine) (ha : Ev X B a σ F m1) (hb : Ev X B b σ F m2) : Ev X B (.Compare a [.Eq] [b] pos) σ F (M.bind m1 fun x => M.bind m2 fun y => M.ask (eqOk (toD x) = true ∧ eqOk (toD y) = true) (M.pure (PyData.eqv (pyD (toD x)) (pyD (toD y))))) :=
  ev_cmp (.of (op_eqD (by omega))) ha hb opm_eqD (nomark _)
theorem ev_neD (hu : X.A.units + 200 < cLine) (ha : Ev X B a σ F m1) (hb : Ev X B b σ F m2) : Ev X B (.Compare a [.NotEq] [b] pos) σ F (M.bind m1 fun x => M.bind m2 fun y => M.ask (eqOk (toD x) = true ∧ eqOk (toD y) = true) (M.pure (!PyData.eqv (pyD (toD x)) (pyD (toD y))))) :=
  ev_cmp (.of (op_neD (by omega))) ha hb opm_neD (nomark _)
theorem et_eqD (hu : X.A.units + 200 < cLine) (ha : Ev X B a σ F m1) (hb : Ev X B b σ F m2) : EtW X B (.Compare a [.Eq] [b] pos) σ F whole (M.bind m1 fun x => M.bind m2 fun y => M.ask (eqOk (toD x) = true ∧ eqOk (toD y) = true) (M.pure (PyData.eqv (pyD (toD x)) (pyD (toD y))))) :=
  et_cmp (.of (op_eqD (by omega))) ha hb opm_eqD (nomark _)
theorem et_neD (hu : X.A.units + 200 < cLine) (ha : Ev X B a σ F m1) (hb : Ev X B b σ F m2) : EtW X B (.Compare a [.NotEq] [b] pos) σ F whole (M.bind m1 fun x => M.bind m2 fun y => M.ask (eqOk (toD x) = true ∧ eqOk (toD y) = true) (M.pure (!PyData.eqv (pyD (toD x)) (pyD (toD y))))) :=
  et_cmp (.of (op_neD (by omega))) ha hb opm_neD (nomark _)
end
/-! ### repr -/
/-- what is shown without a doubt: plain data, the empty dict -/
def repOk : D → Bool
  | .dK [] [] => true
  | d => seqD d && ((pyD d).showable && (!(pyD d).hasDict && (decide ((pyD d).depth ≤ 64) && decide ((pyD d).shown.length ≤ 1000000))))
def shownD (d : D) : Str := (pyD d).shown
theorem sizeL : (1000000 : Nat) ≤ sizeLine := by rw [sizeLine_eq]; decide
section
variable {X : Cx} {B : Box} {σ : L2.St} {F F1 H1 : Hp} {N : Nat} {E : Err → Nat → Prop} {W : WX} {pins : List (Addr × Obj)} {s : Shared}
theorem keep_inv {R : V → Hp → Prop} {H : Hp} {h' : Heap} {x : Str} {u : Tok} {tk : Nat} (I : Inv X pins σ H s) (k : ∀ b o, s.heap.get? b = some o → h'.get? b = some o) (q : R (.str x) H) : EP X pins σ R (.str x u) { s with heap := h', toks := tk } :=
  ⟨.str x, H, I.kept k, ⟨u, rfl⟩, q⟩
theorem repr_data {d : D} {H : Hp} {v : V} {u : Value} {R : V → Hp → Prop} (hG : X.A.guards = some []) (hu : X.A.units + 200 < cLine) (I : Inv X pins σ H s) (e : Ex F H) (i : Is X.K B.at_ F d v) (r : RelV v u) (ok : repOk d = true) (q : R (.str (shownD d)) H) :
    wpAny (model X.prog X.w) X.A (call (.builtin "repr") [u]) (EP X pins σ R) X.xe s := by
  have gen : ∀ {a : Addr} {as : List Addr}, u = .ref a → seqD d = true → Reads s.heap (.ref a) (pyD d) as → (pyD d).showable = true → ((pyD d).hasDict = true → sysModules ∉ as) → (pyD d).depth ≤ 64 → (pyD d).shown.length ≤ 1000000 → wpAny (model X.prog X.w) X.A (call (.builtin "repr") [u]) (EP X pins σ R) X.xe s := by
    intro a as eu _ rd sh hd dp sz
    subst eu
    exact repr_of_reads' rd sh hd hG (by omega) (fun _ _ e => e) (fun h' u tk k => keep_inv I k q) (Nat.le_trans sz sizeL)
  have ok2 : (∀ ks vs, d ≠ .dK ks vs) → seqD d = true ∧ (pyD d).showable = true ∧ (pyD d).hasDict = false ∧ (pyD d).depth ≤ 64 ∧ (pyD d).shown.length ≤ 1000000 := by
    intro hn
    have ok' : (seqD d && ((pyD d).showable && (!(pyD d).hasDict && (decide ((pyD d).depth ≤ 64) && decide ((pyD d).shown.length ≤ 1000000))))) = true := by
      cases d <;> first | exact ok | exact absurd rfl (hn _ _)
    simp only [Bool.and_eq_true, decide_eq_true_eq, Bool.not_eq_true'] at ok'
    exact ⟨ok'.1, ok'.2.1, ok'.2.2.1, ok'.2.2.2.1, ok'.2.2.2.2⟩
  cases d with
  | non =>
    have e1 : v = .non := i
    subst e1
    cases r
    exact PySem.P.repr_of_none (keep_inv I (fun _ _ e => e) q)
  | bool b =>
    have e1 : v = .bl b := i
    subst e1
    cases r
    exact PySem.P.repr_of_bool (keep_inv I (fun _ _ e => e) (by cases b <;> exact q))
  | int b =>
    have e1 : v = .int b := i
    subst e1
    obtain ⟨t, rfl⟩ := r
    exact PySem.P.repr_of_int (of_decide_eq_true (ok2 (fun _ _ z => by cases z)).2.1) (keep_inv I (fun _ _ e => e) q)
  | str b =>
    have e1 : v = .str b := i
    subst e1
    obtain ⟨t, rfl⟩ := r
    exact PySem.P.repr_of_str (keep_inv I (fun _ _ e => e) q) (Nat.le_trans (ok2 (fun _ _ z => by cases z)).2.2.2.2 sizeL)
  | lst ds =>
    obtain ⟨o1, o2, o3, o4, o5⟩ := ok2 (fun _ _ z => by cases z)
    obtain ⟨as, rd⟩ := Dp.reads I _ v u (is_dp e _ v o1 i) r
    obtain ⟨a, vs, rfl, _⟩ := i
    obtain rfl : u = Value.ref a := r
    exact gen rfl o1 rd o2 (fun z => by rw [o3] at z; cases z) o4 o5
  | tup ds =>
    obtain ⟨o1, o2, o3, o4, o5⟩ := ok2 (fun _ _ z => by cases z)
    obtain ⟨as, rd⟩ := Dp.reads I _ v u (is_dp e _ v o1 i) r
    obtain ⟨a, vs, rfl, _⟩ := i
    obtain rfl : u = Value.ref a := r
    exact gen rfl o1 rd o2 (fun z => by rw [o3] at z; cases z) o4 o5
  | dK ks vs =>
    cases ks with
    | cons k ks => cases ok
    | nil =>
      cases vs with
      | cons k ks => cases ok
      | nil =>
        obtain ⟨a, vs, rfl, h2, h3, h4⟩ := i
        have hv : vs = [] := h4
        subst hv
        obtain rfl : u = Value.ref a := r
        obtain ⟨_, hsys, xs, kv, o, es, ep, ho, hex, hd, _, hp, _⟩ := I.hok a _ (e _ _ h2)
        cases kv
        have hes : es.toList = [] := by
          cases q : es.toList with
          | nil => rfl
          | cons z zs => rw [q] at hp; cases hp
        have rd : Reads s.heap (.ref a) (.dict []) (a :: [] ++ []) := .dict ho hex.1 hd (by rw [hes]; exact .nil) (by rw [hes]; exact .nil)
        refine repr_of_reads' rd rfl (fun _ z => ?_) hG (by show X.A.units + (PyData.depth (.dict []) + 1) < cLine; simp only [PyData.depth, PyData.depthKv]; omega) (fun _ _ e => e) (fun h' u tk k => keep_inv I k q) (Nat.le_trans (by decide +kernel : (PyData.shown (.dict [])).length ≤ 1000000) sizeL)
        have : sysModules = a := by simpa using z
        rw [this] at hsys
        simp at hsys
  | _ => cases ok
end
end L3

set_option Elab.async false
set_option linter.all false
set_option maxRecDepth 100000
set_option maxHeartbeats 4000000
/-! repr in expressions; an error's attribute; defs that run where no guard is up; the law's end over such. -/
namespace L3
open PySem PySem.Spec PyProof.Rows L2 ToD
section
variable {X : Cx} {B : Box} {σ : L2.St} {F F1 H1 : Hp} {N : Nat} {E : Err → Nat → Prop} {W : WX} {pins : List (Addr × Obj)} {s : Shared} {α : Type} [ToD α] {e : Expr} {m : M α} {pos p : Pos}
theorem boot_repr : bootBuiltins ("repr" : Str) = some (.builtin "repr") := by decide +kernel
/-- repr(e) -/
theorem ev_repr (hG : X.A.guards = some []) (hu : X.A.units + 200 < cLine) (hg : Gl X "repr") (hm : X.mg "repr" = none) (he : Ev X B e σ F m) (hs : starEach (e :: []) X.env = (false, eval e X.env) :: starEach [] X.env := by rfl)
    (hpl : (backTo pos (starEach [] X.env)).any (·.1) = false := by rfl) : Ev X B (.Call (.Name "repr" p) [e] [] pos) σ F (M.bind m fun x => M.ask (repOk (toD x) = true) (M.pure (shownD (toD x)))) := by
  refine ⟨fun F1 H1 N Q E R W pins s tk I e1 e2 bx hm' c => ?_⟩
  refine wpAny_Call_Name_kw (ld_blt I hg hm boot_repr ?_ (by decide) (by decide))
  refine PyProof.Rows.callWith_builtin1 (id := "repr") (thn ((pa_cons he.pe pa_nil hs).run pos pins s σ H1 (fun vs H2 => ∃ x N2 v F2, vs = [v] ∧ (repOk (toD x) = true ∧ Q (shownD (toD x)) N2) ∧ Gd B.at_ F1 H1 F2 H2 ∧ Bx B F2 H2 N2 ∧ Is X.K B.at_ F2 (toD x) v) I (tEv_mk tk e1 e2 bx hm' c.ex fun x N2 v F2 H2 q g b i => ⟨x, N2, v, F2, rfl, q, g, b, i⟩)) fun us s1 hu2 => ?_) hs hpl
  obtain ⟨vs, H2, I2, r2, x, N2, v, F2, rfl, q, g, b, i⟩ := hu2
  cases r2 with
  | cons r1 r2 =>
    cases r2
    exact repr_data hG hu I2 g.sub i r1 q.1 (c.ok _ N2 _ F2 H2 q.2 g b rfl)
/-- err.f in an except suite -/
theorem ev_xf {n f : Str} {a : Addr} {oe : Obj} {cls : Value} {d : Option Addr} {pn : List (Addr × Obj)} {er : Err} {dv : D} {i : Nat} {H : Hp} (T : XfC X.K (He.ga X.K er.cls)) (hno : PySem.W.findIn X.K (.ref (He.ga X.K er.cls)) f = some none) (ie : IsE X.K B.at_ F H er cls d) (hl : er.fs = [(f, dv)])
    (hz : Zc cls d oe) (hf : ∃ vs, oe.data = .fields vs) (hN : X.N[i]? = some n) (hv : Vis X.env.scope n) (hs : σ[i]? = some (some (.ref a)))
    (hd : (n == ("__debug__" : Str)) = false := by decide) (hcd : (n == ("__classdict__" : Str)) = false := by decide)
    (hb : attributeBase (.Name n p) f X.env (eval (.Name n p) X.env) = eval (.Name n p) X.env := by rfl) : Ev (X.suite a ((a, oe) :: pn)) B (.Attribute (.Name n p) f pos) σ F (M.pure dv) := by
  refine ev_of_pe (pe_xf (C := He.ga X.K er.cls) T hno hz hf (pe_var (X := X.suite a ((a, oe) :: pn)) hN hv hd hcd) hb) fun F1 H1 R e1 e2 k => ?_
  obtain ⟨h1, h2⟩ := ie
  rcases h2 with ⟨h2, _⟩ | ⟨dd, ns, vs, h2, h3, h4, h5⟩
  · rw [hl] at h2; cases h2
  · rw [hl] at h4 h5
    have h4' : ns = [f] := h4.symm
    obtain ⟨v, r, rfl, h6, h7⟩ := h5
    have h7' : r = [] := h7
    subst h4' h7'
    exact ⟨.ref a, hs, rfl, h1, dd, _, v, h2, e2 _ _ (e1 _ _ h3), by simp [List.lookup], k v (h6.mono e1)⟩
end
/-! ### where no guard is up -/
structure FnOkG (P : Program) (w : World) (K : PySem.W.Frag) (mg : Str → Option Value) (base : Heap) (k : Nat) (f : Addr) (fd : FuncData) (ps : List Str) (sp : Sp) : Prop where
  len : ∀ vs H Q E, sp vs H Q E → vs.length = ps.length
  run : ∀ (A : Around) (outer : List Env) (s : Shared) (H : Hp) (args : Args) (us : List Value) (vs : List V) (Q : VK) (E : XK), A.guards = some [] → Room k A → Env0 P w K mg base A outer s H → BindsTo s fd args (ps.zip us) → Vals vs us → sp vs H Q E →
    codeAny (model P w) A (.call (.ref f) args) (CR (L2.CX P w) outer P w H s Q E) s
theorem FnOkG.of {P : Program} {w : World} {K : PySem.W.Frag} {mg : Str → Option Value} {base : Heap} {k : Nat} {f : Addr} {fd : FuncData} {ps : List Str} {sp : Sp} (F : FnOk P w K mg base (L2.CX P w) k f fd ps sp) : FnOkG P w K mg base k f fd ps sp :=
  ⟨F.len, fun A outer s H args us vs Q E _ hr e0 hb r h => F.run A outer s H args us vs Q E hr e0 hb r h⟩
def OkG (P : Program) (w : World) (K : PySem.W.Frag) (mg : Str → Option Value) (base : Heap) (B : Box) (k : Nat) (f : Addr) (ps : List Str) {A ρ : Type} [ToD ρ] (enc : A → List D) (mir : A → M ρ) : Prop :=
  ∃ fd, FnOkG P w K mg base k f fd ps (spM K B enc mir) ∧ Binds K fd ps [] ∧ PySem.W.keepIn K (.ref f) = true
section
variable {P : Program} {w : World} {K : PySem.W.Frag} {mg : Str → Option Value} {base : Heap} {x qual : Str} {params : Arguments} {body : List Stmt} {scope : Scope} {dvs : List V} {kws : List (Str × V)} {f : Addr} {fd : FuncData}
theorem fn_mirG {B : Box} {A ρ : Type} [ToD ρ] {enc : A → List D} {mir : A → M ρ} {N ps : List Str} {k : Nat} (Fd : FunD K x qual params body scope dvs kws f fd) (S : FnScope N ps scope) (hl : ∀ a, (enc a).length = ps.length)
    (h : ∀ (X : Cx) (a : A) (vs : List V) (F H : Hp) (n : Nat) (Q : ρ → Nat → Prop) (E : Err → Nat → Prop) (R : VK) (Z : XK) (cdv : Value) (A : Around) (outer : List Env) (s : Shared),
      X = cxOf (L2.CX P w) P w K mg base N qual scope f cdv A outer s H Z → X.A.guards = some [] → Room k X.A → IsL K B.at_ F (enc a) vs → mir a n Q E → Cf X B F H n Q E R Z → PassesOwn (model X.prog X.w) X.A X.env X.xe →
      Sx X body (start N vs) H { nx := fun _ H' => R .non H', rt := R }) :
    FnOkG P w K mg base (k + 1) f fd ps (spM K B enc mir) := by
  have len : ∀ vs H Q E, spM K B enc mir vs H Q E → vs.length = ps.length := fun vs H Q E hsp => by
    obtain ⟨F, n, a, _, _, _, _, hi, _⟩ := hsp
    rw [hi.length, hl]
  refine ⟨len, fun A outer s H args us vs R Z hG hr e0 hb r hsp => ?_⟩
  have hlen := len _ _ _ _ hsp
  obtain ⟨oc, od, dV, kV, doc, pm, an, cdv, ct, osl, rfl, lk, hcd, _, _⟩ := Fd.ex
  have KX : K.In s.heap := e0.mod.kin.keeps fun b o e => (e0.bs b o e).1
  have lim : s.heap.NoLimit := e0.mod.nolimit.keeps fun b o e => (e0.bs b o e).1
  refine codeAny_call_function hr.depth (KX _ _ lk) rfl S.co S.gen rfl (PySem.W.codeRec_of KX hcd) (hb _ _ _ _ ?_)
  refine wpAny_newFunctionEnv_cells S.kind (fun y hy => ?_) fun env he s1 z => ?_
  · rcases S.par y.1 (List.of_mem_zip (show (y.1, y.2) ∈ ps.zip us from hy)).1 with q | q
    · exact .inl q
    · exact .inr ⟨q, PySem.W.cellsFrom_some _ _ _ (.inl q)⟩
  · subst he
    refine ⟨lim.keeps z.toInCall.keep, codeAny_func ?_⟩
    obtain ⟨F, n, a, Qm, Em, e, b, hi, hm, c⟩ := hsp
    have I : Inv (cxOf (L2.CX P w) P w K mg base N qual scope f cdv A outer s H Z) [] (start N vs) H s1 := inv_start S hr.hd e0 hlen r z
    have go := (h (cxOf (L2.CX P w) P w K mg base N qual scope f cdv A outer s H Z) a vs F H n Qm Em R Z cdv A outer s rfl hG (hr.deeper _) hi hm ⟨takes_of rfl rfl rfl rfl, e, b, c⟩ (passes_of rfl)).run [] s1 I
    refine wpAny_mono go (fun fl s' hs => ?_) fun e s' hs => hs
    have fin : ∀ {σ' : L2.St} {H' : Hp} {v : V} {u : Value}, Inv (cxOf (L2.CX P w) P w K mg base N qual scope f cdv A outer s H Z) [] σ' H' s' → RelV v u → R v H' → L2.CE outer P w H s R u s' :=
      fun {σ' H' v u} J rv q => ⟨v, H', J.os, J.bare, J.base, J.hok, rv, q⟩
    cases fl with
    | ret u =>
      obtain ⟨v, σ', H', J, rv, q⟩ := hs
      exact fin J rv q
    | next =>
      obtain ⟨σ', H', J, q⟩ := hs
      exact fin (v := V.non) (u := Value.none) J rfl q
    | brk =>
      obtain ⟨_, _, _, q⟩ := hs
      exact False.elim q
    | cont =>
      obtain ⟨_, _, _, q⟩ := hs
      exact False.elim q
end
section
variable {X : Cx} {B : Box} {σ : L2.St} {F : Hp} {e a b : Expr} {pos p : Pos} {ρ : Type} [ToD ρ] {A : Type} {enc : A → List D} {es : List Expr} {mr : M A} {mir : A → M ρ} {x : Str} {pins : List (Addr × Obj)} {s : Shared} {W : WX}
theorem run_spG {k : Nat} {f : Addr} {fd : FuncData} {ps : List Str} {sp : Sp} {H : Hp} {R : VK} {us : List Value} {vs : List V} (Fn : FnOkG X.prog X.w X.K X.mg X.base k f fd ps sp) (hG : X.A.guards = some []) (hr : Room k X.A) (hb : Binds X.K fd ps [])
    (tk : Takes X W) (I : Inv X pins σ H s) (r : Vals vs us) (h : sp vs H R (fun c d H' => W c d σ H')) : wpAny (model X.prog X.w) X.A (call (.ref f) us) (EP X pins σ R) X.xe s := by
  have hl : (us ++ []).length = ps.length := by rw [List.append_nil, ← r.length]; exact Fn.len _ _ _ _ h
  have bb := hb s us I.kIn hl
  rw [List.append_nil] at bb
  refine wpAny_call (codeAny_mono (Fn.run X.A X.stack s H ⟨us, []⟩ us vs R _ hG hr I.env0 bb r h) fun r s' hq => ?_)
  cases r with
  | error e => exact tk _ _ (XE.of_call I (fun _ _ _ h => h) hq)
  | ok fl =>
    cases fl with
    | ret u => exact I.after hq
    | next => exact False.elim hq
    | brk => exact False.elim hq
    | cont => exact False.elim hq
/-- a def that is called by its name, where no guard is up -/
theorem ev_callG {k : Nat} {f : Addr} {ps : List Str} (o : OkG X.prog X.w X.K X.mg X.base B k f ps enc mir) (hG : X.A.guards = some []) (hr : Room k X.A) (hg : Gl X x) (hm : X.mg x = some (.ref f)) (ha : EvA X B enc (e :: es) σ F mr)
    (hdb : (x == ("__debug__" : Str)) = false := by decide) (he : starEach (e :: es) X.env = (false, eval e X.env) :: starEach es X.env := by rfl)
    (hpl : (backTo pos (starEach es X.env)).any (·.1) = false := by rfl) : Ev X B (.Call (.Name x p) (e :: es) [] pos) σ F (M.bind mr mir) := by
  obtain ⟨fd, Fn, hb, hk⟩ := o
  refine ⟨fun F1 H1 N Q E R W pins s tk I e1 e2 bx hm' c => ?_⟩
  refine wpAny_Call_Name_kw (ld_glob I hg hm ?_ hdb)
  refine PySem.W.callWith_K (h₀ := X.base) I.ok.mod.kin hk (thn (ha.pa.run pos pins s σ H1 (fun vs H2 => spM X.K B enc mir vs H2 R (fun c d H' => W c d σ H')) I (tEvA_mk tk e1 e2 bx hm' c.ex fun x N2 vs F2 H2 q g b i => ?_)) fun us s1 ⟨vs, H2, I2, r2, q2⟩ => ⟨I2.kIn, ?_⟩) he hpl
  · exact ⟨F2, N2, x, Q, E, g.sub, b, i, q, c.mono g⟩
  · exact run_spG Fn hG hr hb tk I2 r2 q2
end
end L3

set_option Elab.async false
set_option linter.all false
set_option maxRecDepth 100000
set_option maxHeartbeats 4000000
/-! The law's end, where the law's def runs where no guard is up. -/
namespace L3
open PySem PySem.Spec PyProof.Rows L2 ToD
abbrev encS : List Int × Unit → List D := fun p => [.scr p.1]
/-- the call of the law at the heap behind the top, nothing but the script tracked -/
theorem law_run {P : Program} {w : World} {K : PySem.W.Frag} {mg mb : Str → Option Value} {k : Nat} {fa a : Addr} {fd : FuncData} {x : Str} {s₁ : Shared} {vs : List Value} {ns : List Int} {mir : List Int × Unit → M Bool}
    (KX : K.In s₁.heap) (hns : s₁.heap.Ns mainGlobals mg) (hb : s₁.heap.Ns builtinsNs mb) (hbb : ∀ x : Str, x ≠ "__name__" → mb x = bootBuiltins x) (hlim : s₁.heap.NoLimit) (hg : s₁.gens = #[])
    (ha : s₁.heap.get? a = some { cls := .type "list", data := .seq vs.toArray }) (hi : IntsAre vs ns) (hl : ns.length ≤ sizeLine) (hr : Room k callerA)
    (Fo : ∀ base : Heap, K.In base → base.Ns mainGlobals mg → FnOkG P w K mg base k fa fd [x] (spM K noBox encS mir)) (hbind : ∀ (s : Shared) (u : Value), BindsTo s fd ⟨[u], []⟩ [(x, u)])
    (hm : mir (ns, ()) 0 (fun b _ => b = true) (fun _ _ => False)) :
    codeAny (model P w) callerA (.call (.ref fa) ⟨[.ref a], []⟩) (fun r s' => r = .ok (.ret (.bool true)) ∧ OldK s₁.heap s'.heap ∧ s'.os = s₁.os ∧ AllBare s'.gens) s₁ := by
  have rv := vals_ints hi
  have lenV := hi.length
  obtain ⟨H, hH, hO, hS, hok, hA, hK⟩ : ∃ H : Hp, True ∧ Only H ∧ SqL K H a (ns.map V.int) ∧ HOk P w H s₁.heap ∧ (∀ b, H b ≠ none → b = a) ∧ (H a ≠ none → K.lookup a = none) := by
    cases hk : K.lookup a with
    | some o =>
      have e := KX a o hk
      rw [ha] at e
      cases e
      exact ⟨fun _ => none, trivial, fun _ => .inl rfl, .inr ⟨_, vs.toArray, _, hk, rfl, rfl, rfl, by rw [List.size_toArray, lenV]; exact hl, by simpa using rv⟩, fun b u z => (by cases (show (none : Option HO) = some u from z)), fun b z => absurd rfl z, fun z => absurd rfl z⟩
    | none =>
      refine ⟨fun b => if b = a then some (.frz { cls := .type "list", data := .seq vs.toArray } (.lst (ns.map V.int))) else none, trivial, fun b => ?_, .inl (.inr ⟨{ cls := .type "list", data := .seq vs.toArray }, if_pos rfl⟩), fun b u z => ?_, fun b z => ?_, fun _ => rfl⟩
      · by_cases hb : b = a
        · exact .inr ⟨_, _, if_pos hb⟩
        · exact .inl (if_neg hb)
      · by_cases hb : b = a
        · cases (if_pos hb).symm.trans z
          subst hb
          exact ⟨ha, by rw [List.length_map]; exact hl, vs, _, rv, ha⟩
        · cases (if_neg hb).symm.trans z
      · by_cases hb : b = a
        · exact hb
        · exact absurd (if_neg hb) z
  have base_of : ∀ {b : Addr} {o : Obj}, s₁.heap.get? b = some o → H b = none → (hidT s₁.heap H).get? b = some o := fun e n => hidT_get e n
  have noA : ∀ {b : Addr} {o : Obj} {es : Array DictEntry} {ep : Nat}, s₁.heap.get? b = some o → o.data = .dict es ep → H b = none := fun {b o es ep} e d => by
    cases q : H b with
    | none => rfl
    | some u =>
      have e' : b = a := hA b (by rw [q]; simp)
      subst e'
      rw [ha] at e
      cases e
      cases (show Data.seq vs.toArray _ = Data.dict es ep from d)
  have nsK : ∀ {b : Addr} {m : Str → Option Value}, s₁.heap.Ns b m → (hidT s₁.heap H).Ns b m := fun {b m} ⟨o, es, ep, e, d, r⟩ => ⟨o, es, ep, base_of e (noA e d), d, r⟩
  have hKb : K.In (hidT s₁.heap H) := fun b o e => base_of (KX b o e) (by
    cases q : H b with
    | none => rfl
    | some u =>
      have e' : b = a := hA b (by rw [q]; simp)
      subst e'
      rw [hK (by rw [q]; simp)] at e
      cases e)
  have hM : Mod K mg (hidT s₁.heap H) := ⟨hKb, nsK hns, ⟨mb, nsK hb, hbb⟩, let ⟨mc, h1, h2⟩ := hlim; ⟨mc, nsK h1, h2⟩⟩
  have e0 : Env0 P w K mg (hidT s₁.heap H) callerA [] s₁ H := ⟨rfl, hM, fun b o e => of_hidT e, Nat.le_of_eq (hidT_size _ _), trivial, fun b hb => absurd (show b ∈ ([] : List Addr) from hb) (by simp), hok, .of_eq hg⟩
  have sp : spM K noBox encS mir [.ref a] H (fun v _ => v = .bl true) (fun _ _ _ => False) :=
    ⟨H, 0, (ns, ()), _, _, Ex.refl H, Bx.no, ⟨.ref a, [], rfl, ⟨a, rfl, hS⟩, rfl⟩, hm, ⟨fun x N v F2 H2 q g b i => by
      have i' : v = .bl x := i
      have q' : x = true := q
      rw [i', q'], fun er N cls d F2 H2 q => q.elim⟩⟩
  refine codeAny_mono ((Fo _ hKb (nsK hns)).run callerA [] s₁ H ⟨[.ref a], []⟩ [.ref a] [.ref a] _ _ rfl hr e0 (hbind s₁ (.ref a)) (.cons rfl .nil) sp) fun r s' h => ?_
  cases r with
  | error e =>
    obtain ⟨_, _, _, _, _, _, _, _, _, _, _, _, z⟩ := h
    exact z.elim
  | ok fl =>
    cases fl with
    | next => exact False.elim h
    | brk => exact False.elim h
    | cont => exact False.elim h
    | ret u =>
      obtain ⟨v, H', os, bare, un, hok', r', q⟩ := h
      have q' : v = .bl true := q
      subst q'
      obtain rfl : u = Value.bool true := r'
      refine ⟨rfl, OldK.of_keep fun b o e => ?_, os, bare⟩
      cases q : H b with
      | none => exact un.keep b o e q (by intro z; exact absurd (show b ∈ ([] : List Addr) from z) (by simp)) (by simp)
      | some u =>
        rcases hO b with z | ⟨ob, xs, z⟩
        · rw [q] at z; cases z
        · have z2 := un.frzs b ob _ z
          obtain ⟨e1, _⟩ := hok b _ z
          obtain ⟨e2, _⟩ := hok' b _ z2
          rw [e] at e1; cases e1
          exact e2
/-- a law: F gives the written part, the function object, the mirror -/
theorem walk_G {l : PySem.W.OpenLaw} {n k : Nat} {q : Program} {loose : List Str} {XP : (Str → Option Value) → Heap → Prop} {YP : World → Heap → Prop} {d : DefRec} {x : Str} {mir : List Int × Unit → M Bool}
    (hn : l.most = some n) (hn2 : n ≤ sizeLine) (hdf : d.params.defaults = []) (hr : Room k callerA)
    (Fo : ∀ (w : World) (mg : Str → Option Value) (fa : Addr) (h : Heap), YP w h → h.Ns mainGlobals mg → mg d.name = some (.ref fa) →
      ∃ (K : PySem.W.Frag) (fd : FuncData), K.In h ∧ (∀ (s : Shared) (u : Value), BindsTo s fd ⟨[u], []⟩ [(x, u)]) ∧
        ∀ base : Heap, K.In base → base.Ns mainGlobals mg → FnOkG l.prog w K mg base k fa fd [x] (spM K noBox encS mir))
    (hm : ∀ ns : List Int, ns.length ≤ n → mir (ns, ()) 0 (fun b _ => b = true) (fun _ _ => False)) :
    PySem.W.WalkO q loose XP YP l.row.toRowW d [] (fun f vs => PySem.call f vs) := by
  refine Att.attach_call hn hdf fun w s₀ s₁ mg mb fa o pm cd doc a vs ns G Y ho hd hcd hmg hobj hints hlen hg => ?_
  obtain ⟨K, fd, KX, hb, hF⟩ := Fo w mg fa _ Y G.T.g hmg
  exact law_run KX G.T.g G.T.b G.T.builtins G.T.nolimit hg hobj hints (Nat.le_trans hlen hn2) hr hF hb (hm ns hlen)
end L3

set_option Elab.async false
set_option linter.all false
set_option maxRecDepth 100000
set_option maxHeartbeats 4000000
/-! Lists read; the script read; the box opened, written. -/
namespace L3
open PySem PySem.Spec PyProof.Rows L2 ToD
/-- the script as a type -/
structure Scr where
  l : List Int
instance : ToD Scr := ⟨fun s => .scr s.l⟩
/-- xs[i] -/
def M.at {α : Type} (xs : List α) (i : Int) : M α := fun N Q _ => ∃ x, atI xs i = some x ∧ Q x N
theorem ixN_bounds {n : Nat} {i : Int} {j : Nat} (h : ixN n i = some j) : j < n := (ixN_seq h).2.1
theorem isL_at {K : PySem.W.Frag} {p : Option Addr} {F : Hp} {α : Type} [ToD α] {xs : List α} {vs : List V} {i : Int} {x : α} (h : IsL K p F (xs.map toD) vs) (e : atI xs i = some x) : ∃ v, atI vs i = some v ∧ Is K p F (toD x) v := by
  have len : vs.length = xs.length := by rw [h.length, List.length_map]
  unfold atI at e ⊢
  rw [len]
  cases q : ixN xs.length i with
  | none => rw [q] at e; cases e
  | some j =>
    rw [q] at e
    exact isL_nth x j _ vs h (by rw [List.getElem?_map]; rw [show xs[j]? = some x from e]; rfl)
theorem atI_int {α : Type} {xs : List α} {i : Int} {j : Nat} {x : α} (hi : i = (j : Int)) (h : xs[j]? = some x) : atI xs i = some x := by
  subst hi
  exact L2.atI_nat h
section
variable {X : Cx} {B : Box} {σ : L2.St} {F F1 H1 : Hp} {N : Nat} {E : Err → Nat → Prop} {W : WX} {pins : List (Addr × Obj)} {s : Shared} {α β γ : Type} [ToD α] [ToD β] [ToD γ]
  {e a b : Expr} {m : M α} {m1 : M α} {m2 : M β} {pos p : Pos}
theorem ev_ix {m1 : M (List α)} {m2 : M Int} (ha : Ev X B a σ F m1) (hb : Ev X B b σ F m2) (hs : PlainIx b := by exact fun _ _ => rfl) : Ev X B (.Subscript a b pos) σ F (M.bind m1 fun xs => M.bind m2 fun i => M.at xs i) := by
  refine ⟨fun F1 H1 N Q E R W pins s tk I e1 e2 bx hm c => ?_⟩
  refine (pe_ix ix_seq ha.pe hb.pe hs).run pins s σ H1 R I (tEv_mk tk e1 e2 bx hm c.ex fun xs N2 v F2 H2 q g b i => tEv_mk tk (e1.trans g.f) g.sub b q (c.ex.mono g) fun k N3 u F3 H3 q3 g3 b3 i3 => ?_)
  obtain ⟨x, hx, q4⟩ := q3
  obtain ⟨ad, vs, rfl, hf, hl⟩ := i.mono g3.f
  have i3' : u = .int k := i3
  subst i3'
  obtain ⟨w, hw, iw⟩ := isL_at hl hx
  exact .inl ⟨ad, vs, k, w, rfl, rfl, .inl (.inl (g3.sub _ _ hf)), hw, c.ok x N3 w F3 H3 q4 (g.trans g3) b3 iw⟩
theorem ev_ixS {m1 : M Scr} {m2 : M Int} (ha : Ev X B a σ F m1) (hb : Ev X B b σ F m2) (hs : PlainIx b := by exact fun _ _ => rfl) : Ev X B (.Subscript a b pos) σ F (M.bind m1 fun xs => M.bind m2 fun i => M.at xs.l i) := by
  refine ⟨fun F1 H1 N Q E R W pins s tk I e1 e2 bx hm c => ?_⟩
  refine (pe_ix ix_seq ha.pe hb.pe hs).run pins s σ H1 R I (tEv_mk tk e1 e2 bx hm c.ex fun xs N2 v F2 H2 q g b i => tEv_mk tk (e1.trans g.f) g.sub b q (c.ex.mono g) fun k N3 u F3 H3 q3 g3 b3 i3 => ?_)
  obtain ⟨x, hx, q4⟩ := q3
  obtain ⟨ad, rfl, hf⟩ := i.mono g3.f
  have i3' : u = .int k := i3
  subst i3'
  have hw : atI (xs.l.map V.int) k = some (.int x) := by
    unfold atI at hx ⊢
    rw [List.length_map]
    cases q : ixN xs.l.length k with
    | none => rw [q] at hx; cases hx
    | some j =>
      rw [q] at hx
      show (xs.l.map V.int)[j]? = _
      rw [List.getElem?_map, show xs.l[j]? = some x from hx]
      rfl
  exact .inl ⟨ad, _, k, .int x, rfl, rfl, sqL_mono g3.sub hf, hw, c.ok x N3 _ F3 H3 q4 (g.trans g3) b3 rfl⟩
/-- what has a length -/
class LenD (α : Type) [ToD α] where
  len : α → Nat
  ok : ∀ (K : PySem.W.Frag) (p : Option Addr) (F H : Hp) (x : α) (v : V), Ex F H → Is K p F (toD x) v → (∃ s : Str, v = .str s ∧ len x = s.length) ∨ LenV K v H (len x)
instance : LenD Scr := ⟨fun s => s.l.length, fun K p F H x v e i => by
  obtain ⟨a, rfl, hs⟩ := i
  exact .inr (.inl ⟨_, sqL_mono e hs, by simp⟩)⟩
instance : LenD (List α) := ⟨List.length, fun K p F H x v e i => by
  obtain ⟨a, vs, rfl, h, hl⟩ := i
  exact .inr (.inl ⟨vs, .inl (.inl (e _ _ h)), by rw [hl.length, List.length_map]⟩)⟩
instance : LenD (Tp α) := ⟨fun t => t.l.length, fun K p F H x v e i => by
  obtain ⟨a, vs, rfl, h, hl⟩ := i
  exact .inr (.inr ⟨vs, .inl (.inl (e _ _ h)), by rw [hl.length, List.length_map]⟩)⟩
instance : LenD Str := ⟨Str.length, fun K p F H x v e i => .inl ⟨x, i, rfl⟩⟩
/-- a text's length must be shown small -/
def lenOk (x : α) : Prop := match toD x with
  | .str s => s.length ≤ 1000000
  | _ => True
theorem opk_len [LenD α] : CallM X.K B (fun p : α × Unit => [toD p.1]) (fun xs H Q => ∃ x n, xs = [x] ∧ LenV X.K x H n ∧ Q (.int n) H) (fun p => M.ask (lenOk p.1) (M.pure (LenD.len p.1 : Int))) := fun x F H N Q E R Z vs e b i q c => by
  obtain ⟨v, r, rfl, h1, h2⟩ := i
  have h3 : r = [] := h2
  subst h3
  refine ⟨v, _, rfl, ?_, c.ok _ N _ F H q.2 (Gd.refl e) b rfl⟩
  rcases LenD.ok X.K B.at_ F H x.1 v e h1 with ⟨z, rfl, hz⟩ | h
  · refine ⟨?_, hz⟩
    have hs : z.length ≤ 1000000 := by
      have q1 := q.1
      unfold lenOk at q1
      cases hx : toD x.1 with
      | str y =>
        rw [hx] at h1 q1
        have : V.str z = .str y := h1
        cases this
        exact q1
      | non => rw [hx] at h1; cases (show V.str z = _ from h1)
      | bool _ => rw [hx] at h1; cases (show V.str z = _ from h1)
      | int _ => rw [hx] at h1; cases (show V.str z = _ from h1)
      | ty _ => rw [hx] at h1; cases (show V.str z = _ from h1)
      | cl _ => rw [hx] at h1; cases (show V.str z = _ from h1)
      | scr _ => rw [hx] at h1; obtain ⟨_, z, _⟩ := h1; cases z
      | box => rw [hx] at h1; obtain ⟨_, _, z⟩ := h1; cases z
      | rat _ => rw [hx] at h1; obtain ⟨_, _, z, _⟩ := h1; cases z
      | lst _ => rw [hx] at h1; obtain ⟨_, _, z, _⟩ := h1; cases z
      | tup _ => rw [hx] at h1; obtain ⟨_, _, z, _⟩ := h1; cases z
      | dK _ _ => rw [hx] at h1; obtain ⟨_, _, z, _⟩ := h1; cases z
      | dT _ _ => rw [hx] at h1; obtain ⟨_, _, z, _⟩ := h1; cases z
      | ins _ _ _ => rw [hx] at h1; obtain ⟨_, _, _, z, _⟩ := h1; cases z
    exact Nat.le_trans hs sizeL
  · exact h
/-- len(e) -/
theorem ev_len [LenD α] (hg : Gl X "len") (hm : X.mg "len" = none) (ha : Ev X B a σ F m) (hs : starEach (a :: []) X.env = (false, eval a X.env) :: starEach [] X.env := by rfl) (hpl : (backTo pos (starEach [] X.env)).any (·.1) = false := by rfl) :
    Ev X B (.Call (.Name "len" p) [a] [] pos) σ F (M.bind m fun x => M.ask (lenOk x) (M.pure (LenD.len x : Int))) :=
  ev_eq (ev_callB call_len hg hm boot_len (eva_cons ha eva_nil hs) opk_len (by decide) (by decide) hs hpl) rfl
/-! min, max of two, abs -/
def maxI (i j : Int) : Int := if j > i then j else i
def minI (i j : Int) : Int := if j < i then j else i
theorem opk_max2 : CallM X.K B (fun p : Int × Int × Unit => [toD p.1, toD p.2.1]) (fun xs H Q => ∃ i j, xs = [.int i, .int j] ∧ Q (.int (if j > i then j else i)) H) (fun p => M.pure (maxI p.1 p.2.1)) := fun x F H N Q E R Z vs e b i q c => by
  obtain ⟨v, r, rfl, h1, v2, r2, rfl, h2, h3⟩ := i
  have h3' : r2 = [] := h3
  have h1' : v = .int x.1 := h1
  have h2' : v2 = .int x.2.1 := h2
  subst h3' h1' h2'
  exact ⟨_, _, rfl, c.ok (maxI x.1 x.2.1) N _ F H q (Gd.refl e) b rfl⟩
theorem opk_min2 : CallM X.K B (fun p : Int × Int × Unit => [toD p.1, toD p.2.1]) (fun xs H Q => ∃ i j, xs = [.int i, .int j] ∧ Q (.int (if j < i then j else i)) H) (fun p => M.pure (minI p.1 p.2.1)) := fun x F H N Q E R Z vs e b i q c => by
  obtain ⟨v, r, rfl, h1, v2, r2, rfl, h2, h3⟩ := i
  have h3' : r2 = [] := h3
  have h1' : v = .int x.1 := h1
  have h2' : v2 = .int x.2.1 := h2
  subst h3' h1' h2'
  exact ⟨_, _, rfl, c.ok (minI x.1 x.2.1) N _ F H q (Gd.refl e) b rfl⟩
theorem boot_abs' : bootBuiltins ("abs" : Str) = some (.builtin "abs") := by decide +kernel
theorem boot_max' : bootBuiltins ("max" : Str) = some (.builtin "max") := by decide +kernel
theorem boot_min' : bootBuiltins ("min" : Str) = some (.builtin "min") := by decide +kernel
theorem boot_sum' : bootBuiltins ("sum" : Str) = some (.builtin "sum") := by decide +kernel
theorem ev_max2 {m1 m2 : M Int} (hc : X.calm = true) (hg : Gl X "max") (hm : X.mg "max" = none) (ha : Ev X B a σ F m1) (hb : Ev X B b σ F m2) (hs : starEach (a :: [b]) X.env = (false, eval a X.env) :: starEach [b] X.env := by rfl) (hs2 : starEach (b :: []) X.env = (false, eval b X.env) :: starEach [] X.env := by rfl)
    (hpl : (backTo pos (starEach [b] X.env)).any (·.1) = false := by rfl) : Ev X B (.Call (.Name "max" p) [a, b] [] pos) σ F (M.bind m1 fun x => M.bind m2 fun y => M.pure (maxI x y)) :=
  ev_eq (ev_callB (call_max2 hc) hg hm boot_max' (eva_cons ha (eva_cons hb eva_nil hs2) hs) opk_max2 (by decide) (by decide) hs hpl) rfl
theorem ev_min2 {m1 m2 : M Int} (hc : X.calm = true) (hg : Gl X "min") (hm : X.mg "min" = none) (ha : Ev X B a σ F m1) (hb : Ev X B b σ F m2) (hs : starEach (a :: [b]) X.env = (false, eval a X.env) :: starEach [b] X.env := by rfl) (hs2 : starEach (b :: []) X.env = (false, eval b X.env) :: starEach [] X.env := by rfl)
    (hpl : (backTo pos (starEach [b] X.env)).any (·.1) = false := by rfl) : Ev X B (.Call (.Name "min" p) [a, b] [] pos) σ F (M.bind m1 fun x => M.bind m2 fun y => M.pure (minI x y)) :=
  ev_eq (ev_callB (call_min2 hc) hg hm boot_min' (eva_cons ha (eva_cons hb eva_nil hs2) hs) opk_min2 (by decide) (by decide) hs hpl) rfl
/-- sum(script[:1]) -/
theorem ev_sum1 {m1 : M Scr} {k : Nat} {p1 p2 p3 : Pos} (hc : X.calm = true) (hg : Gl X "sum") (hm : X.mg "sum" = none) (ha : Ev X B a σ F m1)
    (hs : starEach (Expr.Subscript a (.Slice none (some (.Constant (.int 1) k p1)) none p2) p3 :: []) X.env = (false, eval (.Subscript a (.Slice none (some (.Constant (.int 1) k p1)) none p2) p3) X.env) :: starEach [] X.env := by rfl)
    (hpl : (backTo pos (starEach [] X.env)).any (·.1) = false := by rfl) : Ev X B (.Call (.Name "sum" p) [.Subscript a (.Slice none (some (.Constant (.int 1) k p1)) none p2) p3] [] pos) σ F (M.bind m1 fun xs => M.pure (xs.l.take 1).sum) := by
  refine ⟨fun F1 H1 N Q E R W pins s tk I e1 e2 bx hm' c => ?_⟩
  refine (pe_callB (cr_sum hc) hg hm boot_sum' (pa_cons (pe_slice sl_list ha.pe po_none (po_some pe_int)) pa_nil hs) (by decide) (by decide) hs hpl).run pins s σ H1 R I (tEv_mk tk e1 e2 bx hm' c.ex fun xs N2 v F2 H2 q g b i => ?_)
  obtain ⟨ad, rfl, hf⟩ := i
  refine ⟨1, rfl, ad, _, rfl, sqL_mono g.sub hf, fun pp np => ?_⟩
  have e3 : cutV (xs.l.map V.int) none (some 1) = (xs.l.take 1).map V.int := by
    unfold cutV
    cases h : xs.l with
    | nil => rfl
    | cons z zs =>
      rw [List.map_cons, List.take_succ_cons, List.take_zero]
      have e5 : HT.sIx (V.int z :: zs.map V.int).length 0 none = 0 := rfl
      have e6 : HT.sIx (V.int z :: zs.map V.int).length (V.int z :: zs.map V.int).length (some 1) = 1 := by
        simp [HT.sIx]
        try omega
      rw [e5, e6]
      rfl
  refine ⟨pp, (xs.l.take 1), rfl, .inl (.inl ?_), ?_⟩
  · rw [upd_same, e3]
  · have g2 : Gd B.at_ F2 H2 F2 (upd H2 pp (.lst (cutV (xs.l.map V.int) none (some 1)))) := Gd.newO g.sub np
    exact c.ok _ N2 _ _ _ q (g.trans g2) (fun z hz => by
      obtain ⟨h1, ws, h2, h3⟩ := b z hz
      exact ⟨h1, ws, by rw [upd_ne (ne_of_none h2 np)]; exact h2, h3⟩) rfl
end
end L3

set_option Elab.async false
set_option linter.all false
set_option maxRecDepth 100000
set_option maxHeartbeats 4000000
/-! The box: looked into as if it were frozen; written. -/
namespace L3
open PySem PySem.Spec PyProof.Rows L2 ToD
/-- the box as a type -/
inductive BoxT where
  | mk
instance : ToD BoxT := ⟨fun _ => .box⟩
/-- the box at a, of three numbers: what is left of the script's number, two that the draws are blended of -/
def okBox (N : Nat) (vs : List V) : Prop := ∃ c0 c1 c2 : Int, vs = [.int c0, .int c1, .int c2] ∧ 0 ≤ c0 ∧ 0 ≤ c1 ∧ c1 < 2 ^ 40 ∧ 0 ≤ c2 ∧ c2 ≤ N
def bxB (a : Addr) : Box := ⟨some a, okBox⟩
/-- a number from 0 on, below many -/
def drawM (many : Int) : M Int := fun N Q _ => 0 < many ∧ many.natAbs.log2 < 9000 ∧ N < 2 ^ 40 ∧ ∀ r, 0 ≤ r → r < many → Q r (N + 1)
theorem Gd.close {a : Addr} {F H F2 H2 : Hp} {o : HO} (hF : F a = none) (hH : H a = some o) (g : Gd none (upd F a o) H F2 H2) : Gd (some a) F H (del F2 a) H2 := by
  have ea : F2 a = some o := g.f a _ upd_same
  have dn : ∀ {b : Addr}, b ≠ a → del F2 a b = F2 b := fun h => del_ne h
  refine ⟨fun b u _ q => g.h b u (fun z => by cases z) q, fun b u q => ?_, fun b u q => ?_, fun b u q => ?_, g.live⟩
  · have hb : b ≠ a := ne_of_none q hF
    rw [dn hb]
    exact g.f b u (by rw [upd_ne hb]; exact q)
  · by_cases hb : b = a
    · rw [hb, del_same] at q; cases q
    · rw [dn hb] at q; exact g.sub b u q
  · by_cases hb : b = a
    · rw [hb, del_same] at q; cases q
    · rw [dn hb] at q
      rcases g.sep b u q with z | z
      · rw [upd_ne hb] at z; exact .inl z
      · exact .inr z
theorem Ex.updIn {F H : Hp} {a : Addr} {o : HO} (e : Ex F H) (hH : H a = some o) : Ex (upd F a o) H := fun b u q => by
  by_cases hb : b = a
  · rw [hb, upd_same] at q; cases q; rw [hb]; exact hH
  · rw [upd_ne hb] at q; exact e b u q
section
variable {X : Cx} {σ : L2.St} {F H F1 H1 : Hp} {N N1 : Nat} {a : Addr} {vs : List V} {e : Expr} {pos p1 p2 : Pos} {rest : List Stmt} {D : Ends} {Z : XK} {R : V → Hp → Prop}
theorem Bx.of (hF : F a = none) (hH : H a = some (.lst vs)) (ok : okBox N vs) : Bx (bxB a) F H N := fun z hz => by
  cases (show some a = some z from hz)
  exact ⟨hF, vs, hH, ok⟩
/-- data without the box are the same -/
theorem is_int {K : PySem.W.Frag} {p q : Option Addr} {F F' : Hp} {i : Int} {v : V} (h : Is K p F (toD i) v) : Is K q F' (toD i) v := h
/-- looked into: the box frozen, an int handed back -/
theorem Cf.open_ {Q : Int → Nat → Prop} {E : Err → Nat → Prop} (cf : Cf X (bxB a) F H N Q E R Z) (hH : H a = some (.lst vs)) : Cf X noBox (upd F a (.lst vs)) H N (fun (x : Int) N' => Q x N' ∧ okBox N' vs) (fun _ _ => False) R Z := by
  have hF : F a = none := (cf.b a rfl).1
  refine ⟨cf.tk, cf.e.updIn hH, Bx.no, ⟨fun x N2 v F2 H2 q g b i => ?_, fun er N2 cls d F2 H2 q => q.elim⟩⟩
  exact cf.c.ok x N2 v (del F2 a) H2 q.1 (g.close hF hH) (Bx.of del_same (g.h a _ (fun z => by cases z) hH) q.2) i
/-- box[i] = e -/
theorem sx_bset {Q : Int → Nat → Prop} {E : Err → Nat → Prop} {m : M Int} {P : Int → Nat → Prop} {i j : Nat} {n : Str} {k : Nat} {pn pk ps : Pos} (cf : Cf X (bxB a) F H N Q E R Z) (hH : H a = some (.lst vs)) (he : Ev X noBox e σ (upd F a (.lst vs)) m)
    (hm : m N (fun z N' => P z N' ∧ okBox N' (vs.set i (.int z))) (fun _ _ => False)) (hi : ixN vs.length (i : Int) = some i)
    (next : ∀ z N1 F1 H1, P z N1 → H1 a = some (.lst (vs.set i (.int z))) → Gd (some a) F H F1 H1 → Cf X (bxB a) F1 H1 N1 Q E R Z → Sx X rest σ H1 D)
    (hN : X.N[j]? = some n) (hv : Vis X.env.scope n) (hs : σ[j]? = some (some (.ref a))) (hd : (n == ("__debug__" : Str)) = false := by decide) (hcd : (n == ("__classdict__" : Str)) = false := by decide)
    (ha : ∀ v, assign (.Subscript (.Name n pn) (.Constant (.int (i : Int)) k pk) ps) X.env v = (do
      let ov ← holding [v] (eval (.Name n pn) X.env)
      let iv ← holding [v, ov] (eval (.Constant (.int (i : Int)) k pk) X.env)
      standAt ps
      holding [v, ov, iv] (setItem ov iv v)
      release [v, ov, iv] []) := by intro _; rfl)
    (hs1 : swapsWithSole [.Subscript (.Name n pn) (.Constant (.int (i : Int)) k pk) ps] e pos.line X.env = pure false := by rfl) (hw : swappedStores [.Subscript (.Name n pn) (.Constant (.int (i : Int)) k pk) ps] e X.env = pure none := by rfl)
    (h1 : (assignEach [.Subscript (.Name n pn) (.Constant (.int (i : Int)) k pk) ps] X.env).map (·.2) = [assign (.Subscript (.Name n pn) (.Constant (.int (i : Int)) k pk) ps) X.env] := by rfl) :
    Sx X (.Assign [.Subscript (.Name n pn) (.Constant (.int (i : Int)) k pk) ps] e pos :: rest) σ H D := by
  have hF : F a = none := (cf.b a rfl).1
  refine sx_ps (ps_asg he.pe (pg_sub (pe_var hN hv hd hcd) pe_int set_list ha) hs1 hw h1) ?_
  refine tEv_mk cf.tk (Ex.refl _) (cf.e.updIn hH) Bx.no hm (fun er N cls d F2 H2 q => q.elim) fun z N2 v F2 H2 q g b iz => ?_
  have ev : v = .int z := iz
  subst ev
  have hH2 : H2 a = some (.lst vs) := g.h a _ (fun z => by cases z) hH
  have g0 := g.close hF hH
  refine ⟨.ref a, hs, a, vs, (i : Int), i, rfl, rfl, hH2, hi, ?_⟩
  have g1 : Gd (some a) (del F2 a) H2 (del F2 a) (upd H2 a (.lst (vs.set i (.int z)))) := {
    h := fun b o hb q => by
      have : b ≠ a := fun e => hb (by rw [e])
      rw [upd_ne this]
      exact q
    f := Ex.refl _
    sub := fun b o q => by
      by_cases hb : b = a
      · rw [hb, del_same] at q; cases q
      · rw [upd_ne hb]; exact g0.sub b o q
    sep := fun b o q => .inl q
    live := fun b q => by
      by_cases hb : b = a
      · rw [hb, upd_same] at q; cases q
      · rw [upd_ne hb] at q; exact q }
  exact next z N2 (del F2 a) _ q.1 upd_same (g0.trans g1) (cf.on (g0.trans g1) (Bx.of del_same upd_same q.2))
/-- return [..], the list left open -/
theorem sx_retL {α : Type} [ToD α] {B : Box} {es : List Expr} {ml : M (List α)} {Q : List α → Nat → Prop} {E : Err → Nat → Prop} (ha : EvA X B (encL (α := α)) es σ F ml) (tk : Takes X (fun c d _ H => Z c d H)) (e : Ex F H) (b : Bx B F H N) (hm : ml N Q E) (cx : CE X.K B F H E Z)
    (k : ∀ xs N2 vs F2 H2 p, Q xs N2 → Gd B.at_ F H F2 H2 → Bx B F2 H2 N2 → IsL X.K B.at_ F2 (xs.map toD) vs → H2 p = none → D.rt (.ref p) (upd H2 p (.lst vs))) (hl : ∀ xs N2, Q xs N2 → xs.length ≤ 1000) : Sx X (.Return (some (.List es p1)) pos :: rest) σ H D := by
  refine sx_ps (ps_ret (pe_lst ha.pa)) (tEvA_mk tk (Ex.refl F) e b hm cx fun xs N2 vs F2 H2 q g b2 i => ⟨?_, fun p np => k xs N2 vs F2 H2 p q g b2 i np⟩)
  have := hl xs N2 q
  rw [i.length, List.length_map, sizeLine_eq]
  omega
theorem Cf.shut {Q : Int → Nat → Prop} {E : Err → Nat → Prop} {F2 H2 : Hp} {N2 : Nat} (cf : Cf X (bxB a) F H N Q E R Z) (hH : H a = some (.lst vs)) (g : Gd none (upd F a (.lst vs)) H F2 H2) (ok : okBox N2 vs) :
    H2 a = some (.lst vs) ∧ Gd (some a) F H (del F2 a) H2 ∧ Cf X (bxB a) (del F2 a) H2 N2 Q E R Z := by
  have hF : F a = none := (cf.b a rfl).1
  have hH2 : H2 a = some (.lst vs) := g.h a _ (fun z => by cases z) hH
  exact ⟨hH2, g.close hF hH, cf.on (g.close hF hH) (Bx.of del_same hH2 ok)⟩
/-- name = e, e looks into the box -/
theorem sx_asgB {Q : Int → Nat → Prop} {E : Err → Nat → Prop} {m : M Int} {P : Int → Nat → Prop} {i : Nat} {n : Str} (cf : Cf X (bxB a) F H N Q E R Z) (hH : H a = some (.lst vs)) (he : Ev X noBox e σ (upd F a (.lst vs)) m)
    (hm : m N (fun z N' => P z N' ∧ okBox N' vs) (fun _ _ => False))
    (next : ∀ z N1 F1 H1, P z N1 → H1 a = some (.lst vs) → Gd (some a) F H F1 H1 → Cf X (bxB a) F1 H1 N1 Q E R Z → Sx X rest (σ.set i (some (.int z))) H1 D)
    (hN : X.N.Nodup) (hi : X.N[i]? = some n) (hx : Loc X.env.scope n) (hs : swapsWith e (some (.Name n p1)) pos.line X.env = pure false := by rfl)
    (hf : X.fn n = true ∨ X.env.scope.names.lookup n = some .local := by first | exact .inl rfl | exact .inr rfl | assumption) : Sx X (.Assign [.Name n p1] e pos :: rest) σ H D :=
  sx_ps (ps_set hN hi hx he.pe hs hf) (tEv_mk cf.tk (Ex.refl _) (cf.e.updIn hH) Bx.no hm (fun er N cls d F2 H2 q => q.elim) fun z N2 v F2 H2 q g b iz => by
    have ev : v = .int z := iz
    subst ev
    obtain ⟨h1, h2, h3⟩ := cf.shut hH g q.2
    exact next z N2 _ H2 q.1 h1 h2 h3)
theorem sx_ifB {Q : Int → Nat → Prop} {E : Err → Nat → Prop} {c : Expr} {sa sb : List Stmt} {mc : M Bool} {P : Bool → Nat → Prop} (cf : Cf X (bxB a) F H N Q E R Z) (hH : H a = some (.lst vs)) (hc : Et X noBox c σ (upd F a (.lst vs)) mc)
    (hm : mc N (fun z N' => P z N' ∧ okBox N' vs) (fun _ _ => False))
    (h1 : ∀ N1 F1 H1, P true N1 → H1 a = some (.lst vs) → Gd (some a) F H F1 H1 → Cf X (bxB a) F1 H1 N1 Q E R Z → Sx X sa σ H1 { D with nx := fun σ' H' => Sx X rest σ' H' D })
    (h2 : ∀ N1 F1 H1, P false N1 → H1 a = some (.lst vs) → Gd (some a) F H F1 H1 → Cf X (bxB a) F1 H1 N1 Q E R Z → Sx X sb σ H1 { D with nx := fun σ' H' => Sx X rest σ' H' D }) : Sx X (.If c sa sb pos :: rest) σ H D :=
  sx_ps (ps_if hc.pt (tSx_pss sa) (tSx_pss sb)) (tEt_mk cf.tk (Ex.refl _) (cf.e.updIn hH) Bx.no hm (fun er N cls d F2 H2 q => q.elim) fun x N2 F2 H2 q g b => by
    obtain ⟨z1, z2, z3⟩ := cf.shut hH g q.2
    cases x with
    | true => exact h1 N2 _ H2 q.1 z1 z2 z3
    | false => exact h2 N2 _ H2 q.1 z1 z2 z3)
theorem sx_retB {Q : Int → Nat → Prop} {E : Err → Nat → Prop} {m : M Int} (cf : Cf X (bxB a) F H N Q E R Z) (hH : H a = some (.lst vs)) (he : Ev X noBox e σ (upd F a (.lst vs)) m)
    (hm : m N (fun z N' => Q z N' ∧ okBox N' vs) (fun _ _ => False)) (hD : D.rt = R) : Sx X (.Return (some e) pos :: rest) σ H D :=
  sx_ret (cf.open_ hH) he hm hD
theorem is_cells {K : PySem.W.Frag} {p : Option Addr} {F : Hp} {c0 c1 c2 : Int} (h : F a = some (.lst [.int c0, .int c1, .int c2])) : Is K p F (toD [c0, c1, c2]) (.ref a) :=
  ⟨a, _, rfl, h, .int c0, _, rfl, rfl, .int c1, _, rfl, rfl, .int c2, _, rfl, rfl, rfl⟩
theorem pow_small {i : Int} (h0 : 0 ≤ i) (h : i < 2 ^ 64) (k : Int) (hk0 : 0 ≤ k) (hk : k ≤ 1000000) : CPow i k := ⟨hk0, hk, by omega⟩
/-- one more draw is counted -/
theorem ev_step {α : Type} [ToD α] {m : M α} (h : Ev X noBox e σ F m) : Ev X noBox e σ F (fun N Q E => m N (fun x N' => Q x (N' + 1)) E) := by
  refine ⟨fun F1 H1 N Q E R W pins s tk I e1 e2 bx hm c => ?_⟩
  exact h.run F1 H1 N _ E R W pins s tk I e1 e2 bx hm ⟨fun x N v F2 H2 q g b i => c.ok x (N + 1) v F2 H2 q g Bx.no i, c.ex⟩
end
end L3

set_option Elab.async false
set_option linter.all false
set_option maxRecDepth 100000
set_option maxHeartbeats 4000000
/-! More rules: any datum beside a quotient; displays. -/
namespace L3
open PySem PySem.Spec PyProof.Rows L2 ToD
section
variable {X : Cx} {B : Box} {σ : L2.St} {F F1 H1 : Hp} {N : Nat} {E : Err → Nat → Prop} {W : WX} {pins : List (Addr × Obj)} {s : Shared} {α β γ : Type} [ToD α] [ToD β] [ToD γ]
  {e a b : Expr} {m : M α} {m1 : M Rat} {m2 : M D} {pos p : Pos} {ρ : Type} [ToD ρ] {mir : Rat × D × Unit → M ρ} {mb : Rat × D × Unit → M Bool} {lv : Nat} {ps : List Str} {whole : Sem Value} {op : CmpOp}
theorem opm_ownD {mir : Rat × D × Unit → M ρ} : ∀ (x : Rat) (y : D), OpM X.K B (rOwn2 X.K B mir) x y (M.ask (cmpOk y) (mir (x, y, ()))) := fun x y F H N Q E R Z v u e b i1 i2 q c => opm_ownT y q.1 x F H N Q E R Z v u e b i1 i2 q.2 c
theorem opm_neD2 {mir : Rat × D × Unit → M Bool} : ∀ (x : Rat) (y : D), OpM X.K B (rNe2 X.K B mir) x y (M.ask (cmpOk y) (M.bind (mir (x, y, ())) fun c => M.pure (!c))) := fun x y F H N Q E R Z v u e b i1 i2 q c => opm_ne2 y q.1 x F H N Q E R Z v u e b i1 i2 q.2 c
theorem ev_qcmpD (hop : ∀ a b, compareOp op a b = richCompare op a b) (T : MetC X.prog X.w X.K X.mg X.base B (cmpInfo op).2.1 lv ps enc2 mir) (C : CmpC X.K) (hr : Room lv X.A) (ha : Ev X B a σ F m1) (hb : Ev X B b σ F m2) (hk : behindInMarks op b = false) :
    Ev X B (.Compare a [op] [b] pos) σ F (M.bind m1 fun x => M.bind m2 fun y => M.ask (cmpOk y) (mir (x, y, ()))) := ev_cmp (opx_cmp hop T C hr) ha hb opm_ownD hk
theorem et_qcmpD (hop : ∀ a b, compareOp op a b = richCompare op a b) (T : MetC X.prog X.w X.K X.mg X.base B (cmpInfo op).2.1 lv ps enc2 mb) (C : CmpC X.K) (hr : Room lv X.A) (ha : Ev X B a σ F m1) (hb : Ev X B b σ F m2) (hk : behindInMarks op b = false) :
    EtW X B (.Compare a [op] [b] pos) σ F whole (M.bind m1 fun x => M.bind m2 fun y => M.ask (cmpOk y) (mb (x, y, ()))) := et_cmp (opx_cmp hop T C hr) ha hb opm_ownD hk
theorem ev_qneD (T : MetC X.prog X.w X.K X.mg X.base B "__eq__" lv ps enc2 mb) (C : CmpC X.K) (Cn : NeC X.K) (hr : Room (lv + 1) X.A) (ha : Ev X B a σ F m1) (hb : Ev X B b σ F m2) :
    Ev X B (.Compare a [.NotEq] [b] pos) σ F (M.bind m1 fun x => M.bind m2 fun y => M.ask (cmpOk y) (M.bind (mb (x, y, ())) fun c => M.pure (!c))) := ev_cmp (opx_ne T C Cn hr) ha hb opm_neD2 (nomark _)
theorem et_qneD (T : MetC X.prog X.w X.K X.mg X.base B "__eq__" lv ps enc2 mb) (C : CmpC X.K) (Cn : NeC X.K) (hr : Room (lv + 1) X.A) (ha : Ev X B a σ F m1) (hb : Ev X B b σ F m2) :
    EtW X B (.Compare a [.NotEq] [b] pos) σ F whole (M.bind m1 fun x => M.bind m2 fun y => M.ask (cmpOk y) (M.bind (mb (x, y, ())) fun c => M.pure (!c))) := et_cmp (opx_ne T C Cn hr) ha hb opm_neD2 (nomark _)
/-- [a, b, ..], its length asked -/
theorem ev_lstA {es : List Expr} {ml : M (List α)} (h : EvA X B (encL (α := α)) es σ F ml) : Ev X B (.List es pos) σ F (M.bind ml fun xs => M.ask (xs.length ≤ 1000) (M.pure xs)) := by
  refine ⟨fun F1 H1 N Q E R W pins s tk I e1 e2 bx hm c => ?_⟩
  refine (pe_lst h.pa).run pins s σ H1 R I (tEvA_mk tk e1 e2 bx hm c.ex fun xs N2 vs F2 H2 q g b i => ?_)
  refine ⟨?_, fun p np => ?_⟩
  · have := q.1
    rw [i.length, List.length_map, sizeLine_eq]
    omega
  · have g2 : Gd B.at_ F2 H2 (upd F2 p (.lst vs)) (upd H2 p (.lst vs)) := Gd.new g.sub np
    exact c.ok xs N2 _ _ _ q.2 (g.trans g2) (b.new np) ⟨p, vs, rfl, upd_same, i.mono g2.f⟩
/-- a method of Ratio that takes one number -/
theorem ev_qmeth {A : Type} {name : Str} {apos : Pos} {enc : A → List D} {es : List Expr} {mr : M A} {encM : Rat × A → List D} {mir : Rat × A → M ρ} {pl : Sem Bool} (T : MetC X.prog X.w X.K X.mg X.base B name lv ps encM mir) (cl : Cls X.K (qC X.K)) (hr : Room lv X.A) (h1 : (name == ("own_top" : Str)) = false) (h2 : (name == ("own_bottom" : Str)) = false)
    (he : ∀ q a, encM (q, a) = toD q :: enc a) (ha : Ev X B a σ F m1) (hb : EvA X B enc (b :: es) σ F mr)
    (ht : eval (.Call (.Attribute a name apos) (b :: es) [] pos) X.env = (do
      let ov ← eval a X.env
      standAt apos.atName
      let (f, first) ← holding [ov] (getMethod ov name pl)
      callWith pos f first (backTo pos (starEach (b :: es) X.env)) (backToKw pos (keywordEach [] X.env))) := by rfl)
    (hs : starEach (b :: es) X.env = (false, eval b X.env) :: starEach es X.env := by rfl) (hpl : (backTo pos (starEach es X.env)).any (·.1) = false := by rfl) :
    Ev X B (.Call (.Attribute a name apos) (b :: es) [] pos) σ F (M.bind m1 fun q => M.bind mr fun x => mir (q, x)) := by
  obtain ⟨fd, Fn, bd⟩ := T.fn
  exact ev_meth (C := "Ratio") Fn bd T.meth cl hr (instD_rat h1 h2) he ha hb ht hs hpl
end
def fXf (x : Str) : Fc := fun K => xfB K (He.ga K x)
theorem fXf_ok {K : PySem.W.Frag} {x : Str} (c : fXf x K = true) : XfC K (He.ga K x) := xfB_ok c
theorem fExm_ok {K : PySem.W.Frag} {x y : Str} {b : Bool} (c : fExm x y b K = true) : PySem.W.exmOne K (.ref (He.ga K x)) (.ref (He.ga K y)) = some b := of_decide_eq_true c
end L3

set_option Elab.async false
set_option linter.all false
set_option maxRecDepth 100000
set_option maxHeartbeats 4000000
/-! The box made; four names at once; a keyword; a tuple of one. -/
namespace L3
open PySem PySem.Spec PyProof.Rows L2 ToD
/-- a new box, of two numbers and 0 -/
def spBox (K : PySem.W.Frag) : Sp := fun vs H R _ => ∃ (a : Addr) (ns : List Int) (k : Int), vs = [.ref a, .int k] ∧ SqL K H a (ns.map V.int) ∧ 0 ≤ k ∧ k < 2 ^ 40 ∧
  ∀ H1 p c0 c1, Ex H H1 → H1 p = none → 0 ≤ c0 → 0 ≤ c1 → c1 < 2 ^ 40 → R (.ref p) (upd H1 p (.lst [.int c0, .int c1, .int 0]))
mutual
/-- data seen without a box are seen with any -/
theorem Is.any {K : PySem.W.Frag} {q : Option Addr} {F : Hp} : ∀ {d : D} {v : V}, Is K none F d v → Is K q F d v
  | .scr _, _, h => h
  | .box, _, h => by obtain ⟨a, z, _⟩ := h; cases z
  | .ty _, _, h => h
  | .cl _, _, h => h
  | .non, _, h => h
  | .bool _, _, h => h
  | .int _, _, h => h
  | .str _, _, h => h
  | .rat _, _, h => h
  | .lst ds, _, h => by
    obtain ⟨a, vs, h1, h2, h3⟩ := h
    exact ⟨a, vs, h1, h2, IsL.any h3⟩
  | .tup ds, _, h => by
    obtain ⟨a, vs, h1, h2, h3⟩ := h
    exact ⟨a, vs, h1, h2, IsL.any h3⟩
  | .dK ks ds, _, h => by
    obtain ⟨a, vs, h1, h2, h3, h4⟩ := h
    exact ⟨a, vs, h1, h2, h3, IsL.any h4⟩
  | .dT ks ds, _, h => by
    obtain ⟨a, vs, h1, h2, h3, h4⟩ := h
    exact ⟨a, vs, h1, h2, h3, IsL.any h4⟩
  | .ins C ns ds, _, h => by
    obtain ⟨a, dx, vs, h1, h2, h3, h4⟩ := h
    exact ⟨a, dx, vs, h1, h2, h3, IsL.any h4⟩
theorem IsL.any {K : PySem.W.Frag} {q : Option Addr} {F : Hp} : ∀ {ds : List D} {vs : List V}, IsL K none F ds vs → IsL K q F ds vs
  | [], _, h => h
  | d :: ds, _, h => by
    obtain ⟨v, r, h1, h2, h3⟩ := h
    exact ⟨v, r, h1, Is.any h2, IsL.any h3⟩
end
theorem Gd.unbox {p : Addr} {F H H1 F2 H2 : Hp} {o : HO} (e : Ex H H1) (n : H1 p = none) (g : Gd (some p) F (upd H1 p o) F2 H2) : Gd none F H F2 H2 where
  h := fun a u _ q => by
    have hn : a ≠ p := ne_of_none (e a u q) n
    refine g.h a u (fun z => hn (Option.some.inj z).symm) ?_
    rw [upd_ne hn]
    exact e a u q
  f := g.f
  sub := g.sub
  sep := fun a u q => by
    rcases g.sep a u q with z | z
    · exact .inl z
    · by_cases hn : a = p
      · rw [hn, upd_same] at z; cases z
      · rw [upd_ne hn] at z
        exact .inr (e.none z)
  live := fun a q => by
    have z := g.live a q
    by_cases hn : a = p
    · rw [hn, upd_same] at z; cases z
    · rw [upd_ne hn] at z
      exact e.none z
section
variable {X : Cx} {σ : L2.St} {F H F1 H1 : Hp} {N N1 : Nat} {e a b : Expr} {pos p1 p2 p3 p4 p5 : Pos} {rest : List Stmt} {D : Ends} {Z : XK} {R : V → Hp → Prop} {ρ : Type} [ToD ρ] {Q : ρ → Nat → Prop} {E : Err → Nat → Prop}
/-- box = _law_box(script, k): the box at p, and nothing is handed back before the box is gone -/
theorem sx_box {fd : FuncData} {kf : Nat} {f : Addr} {ps : List Str} {x n ns nk : Str} {i is_ ik : Nat} {sv : V} {s : Scr} {kv : Int} (cf : Cf X noBox F H N Q E R Z) (Fn : FnOk X.prog X.w X.K X.mg X.base (L2.CX X.prog X.w) kf f fd ps (spBox X.K)) (hb : Binds X.K fd ps []) (hk : PySem.W.keepIn X.K (.ref f) = true) (hr : Room kf X.A)
    (hg : Gl X x) (hm : X.mg x = some (.ref f)) (hNs : X.N[is_]? = some ns) (hvs : Vis X.env.scope ns) (hNk : X.N[ik]? = some nk) (hvk : Vis X.env.scope nk) (hss : σ[is_]? = some (some sv)) (hsk : σ[ik]? = some (some (.int kv))) (is0 : Is X.K none F (toD s) sv) (k0 : 0 ≤ kv) (k1 : kv < 2 ^ 40)
    (next : ∀ p H1 c0 c1, Ex H H1 → H1 p = none → F p = none → Cf X (bxB p) F (upd H1 p (.lst [.int c0, .int c1, .int 0])) 0 (fun (_ : ρ) _ => False) (fun _ _ => False) R Z → Sx X rest (σ.set i (some (.ref p))) (upd H1 p (.lst [.int c0, .int c1, .int 0])) D)
    (hN : X.N.Nodup) (hi : X.N[i]? = some n) (hx : Loc X.env.scope n) (hf : X.fn n = true ∨ X.env.scope.names.lookup n = some .local := by first | exact .inl rfl | exact .inr rfl | assumption)
    (hdb : (x == ("__debug__" : Str)) = false := by decide) (hd1 : (ns == ("__debug__" : Str)) = false := by decide) (hd2 : (ns == ("__classdict__" : Str)) = false := by decide) (hd3 : (nk == ("__debug__" : Str)) = false := by decide) (hd4 : (nk == ("__classdict__" : Str)) = false := by decide)
    (he1 : starEach (Expr.Name ns p2 :: [Expr.Name nk p3]) X.env = (false, eval (.Name ns p2) X.env) :: starEach [Expr.Name nk p3] X.env := by rfl) (he2 : starEach (Expr.Name nk p3 :: []) X.env = (false, eval (.Name nk p3) X.env) :: starEach [] X.env := by rfl)
    (hpl : (backTo p4 (starEach [Expr.Name nk p3] X.env)).any (·.1) = false := by rfl) (hsw : swapsWith (.Call (.Name x p1) [.Name ns p2, .Name nk p3] [] p4) (some (.Name n p5)) pos.line X.env = pure false := by rfl) :
    Sx X (.Assign [.Name n p5] (.Call (.Name x p1) [.Name ns p2, .Name nk p3] [] p4) pos :: rest) σ H D := by
  have pe : PE X (.Call (.Name x p1) [.Name ns p2, .Name nk p3] [] p4) (fun σ' H1 R' => σ' = σ ∧ H1 = H ∧ ∀ H2 p c0 c1, Ex H H2 → H2 p = none → 0 ≤ c0 → 0 ≤ c1 → c1 < 2 ^ 40 → R' (.ref p) (upd H2 p (.lst [.int c0, .int c1, .int 0]))) := by
    refine ⟨fun pins s' σ' H' Q' I h => ?_⟩
    obtain ⟨rfl, rfl, k⟩ := h
    obtain ⟨sa, rfl, hS⟩ := is0
    refine wpAny_Call_Name_kw (ld_glob I hg hm ?_ hdb)
    refine PySem.W.callWith_K (h₀ := X.base) I.ok.mod.kin hk (thn ((pa_cons (pe_var hNs hvs hd1 hd2) (pa_cons (pe_var hNk hvk hd3 hd4) pa_nil he2) he1).run p4 pins s' σ' H' (fun vs H2 => H2 = H' ∧ vs = [.ref sa, .int kv]) I ⟨.ref sa, hss, .int kv, hsk, rfl, rfl⟩) fun us s1 ⟨vs, H2, I2, r2, e1, e2⟩ => ⟨I2.kIn, ?_⟩) he1 hpl
    subst e1 e2
    exact run_sp Fn hr hb .nil cf.tk I2 r2 ⟨sa, s.l, kv, rfl, sqL_mono cf.e hS, k0, k1, k⟩
  refine sx_ps (ps_set hN hi hx pe hsw hf) ⟨rfl, rfl, fun H2 p c0 c1 h1 h2 q0 q1 q2 => ?_⟩
  have fp : F p = none := cf.e.none (h1.none h2)
  have sub : Ex F (upd H2 p (.lst [.int c0, .int c1, .int 0])) := (cf.e.trans h1).updN fp
  refine next p H2 c0 c1 h1 h2 fp ⟨cf.tk, sub, Bx.of fp upd_same ⟨c0, c1, 0, rfl, q0, q1, q2, by omega, by omega⟩, ⟨fun _ _ _ _ _ q => q.elim, fun _ _ _ _ _ _ q => q.elim⟩⟩
/-- a, b, c, d = four values -/
theorem sx_tup4 {A : Type} {enc : A → List L3.D} {ml : M A} {k : A → M ρ} {B : Box} {e0 e1 e2 e3 : Expr} {n0 n1 n2 n3 : Str} {i0 i1 i2 i3 : Nat} {q0 q1 q2 q3 pt pt2 : Pos} {kt k2 : Nat} (cf : Cf X B F H N Q E R Z) (ha : EvA X B enc [e0, e1, e2, e3] σ F ml) (hm : (M.bind ml k) N Q E) (hl : ∀ x, (enc x).length = 4)
    (next : ∀ x N1 v0 v1 v2 v3 F1 H1, k x N1 Q E → Gd B.at_ F H F1 H1 → Cf X B F1 H1 N1 Q E R Z → IsL X.K B.at_ F1 (enc x) [v0, v1, v2, v3] → Sx X rest ((((σ.set i0 (some v0)).set i1 (some v1)).set i2 (some v2)).set i3 (some v3)) H1 D)
    (hc : X.calm = true) (hN : X.N.Nodup) (h0 : X.N[i0]? = some n0) (h1 : X.N[i1]? = some n1) (h2 : X.N[i2]? = some n2) (h3 : X.N[i3]? = some n3) (x0 : X.env.scope.names.lookup n0 = some .local) (x1 : X.env.scope.names.lookup n1 = some .local) (x2 : X.env.scope.names.lookup n2 = some .local) (x3 : X.env.scope.names.lookup n3 = some .local)
    (hs : swapsWithSole [.Tuple [.Name n0 q0, .Name n1 q1, .Name n2 q2, .Name n3 q3] kt pt] (.Tuple [e0, e1, e2, e3] k2 pt2) pos.line X.env = pure false := by rfl) (hw : swappedStores [.Tuple [.Name n0 q0, .Name n1 q1, .Name n2 q2, .Name n3 q3] kt pt] (.Tuple [e0, e1, e2, e3] k2 pt2) X.env = pure none := by rfl)
    (h4 : (assignEach [.Tuple [.Name n0 q0, .Name n1 q1, .Name n2 q2, .Name n3 q3] kt pt] X.env).map (·.2) = [assign (.Tuple [.Name n0 q0, .Name n1 q1, .Name n2 q2, .Name n3 q3] kt pt) X.env] := by rfl)
    (hn : (assignEach [.Name n0 q0, .Name n1 q1, .Name n2 q2, .Name n3 q3] X.env).length = 4 := by rfl) (hst : (assignEach [Expr.Name n0 q0, .Name n1 q1, .Name n2 q2, .Name n3 q3] X.env).findIdx? (·.1) = none := by rfl)
    (c0 : (assignEach (Expr.Name n0 q0 :: [.Name n1 q1, .Name n2 q2, .Name n3 q3]) X.env).map (·.2) = assign (.Name n0 q0) X.env :: (assignEach [.Name n1 q1, .Name n2 q2, .Name n3 q3] X.env).map (·.2) := by rfl)
    (c1 : (assignEach (Expr.Name n1 q1 :: [.Name n2 q2, .Name n3 q3]) X.env).map (·.2) = assign (.Name n1 q1) X.env :: (assignEach [.Name n2 q2, .Name n3 q3] X.env).map (·.2) := by rfl)
    (c2 : (assignEach (Expr.Name n2 q2 :: [.Name n3 q3]) X.env).map (·.2) = assign (.Name n2 q2) X.env :: (assignEach [.Name n3 q3] X.env).map (·.2) := by rfl)
    (c3 : (assignEach (Expr.Name n3 q3 :: []) X.env).map (·.2) = assign (.Name n3 q3) X.env :: (assignEach [] X.env).map (·.2) := by rfl) : Sx X (.Assign [.Tuple [.Name n0 q0, .Name n1 q1, .Name n2 q2, .Name n3 q3] kt pt] (.Tuple [e0, e1, e2, e3] k2 pt2) pos :: rest) σ H D := by
  refine sx_ps (ps_asg (pe_tup ha.pa) (pg_tup hc (pgs_cons (pg_name hN h0 (.inl x0) (.inr x0)) (pgs_cons (pg_name hN h1 (.inl x1) (.inr x1)) (pgs_cons (pg_name hN h2 (.inl x2) (.inr x2)) (pgs_cons (pg_name hN h3 (.inl x3) (.inr x3)) pgs_nil c3) c2) c1) c0) hn hst) hs hw h4) ?_
  refine tEvA_mk cf.tk (Ex.refl F) cf.e cf.b hm cf.c.ex fun x N2 vs F2 H2 q g b i => ?_
  have len : vs.length = 4 := by rw [i.length, hl]
  refine ⟨by rw [len, sizeLine_eq]; decide, fun p np => ?_⟩
  match vs, len, i with
  | [v0, v1, v2, v3], _, i =>
    have g2 : Gd B.at_ F2 H2 F2 (upd H2 p (.tup [v0, v1, v2, v3])) := Gd.newO g.sub np
    have b2 : Bx B F2 (upd H2 p (.tup [v0, v1, v2, v3])) N2 := fun z hz => by
      obtain ⟨h1, ws, h2, h3⟩ := b z hz
      exact ⟨h1, ws, by rw [upd_ne (ne_of_none h2 np)]; exact h2, h3⟩
    refine ⟨p, [v0, v1, v2, v3], rfl, .inl (.inl upd_same), rfl, v0, _, rfl, v1, _, rfl, v2, _, rfl, v3, _, rfl, rfl, ?_⟩
    exact next x N2 v0 v1 v2 v3 F2 _ q (g.trans g2) (cf.on (g.trans g2) b2) i
/-- (e,) -/
theorem ev_tup1 {α : Type} [ToD α] {B : Box} {m : M α} {k1 : Nat} (ha : Ev X B e σ F m) (hs : starEach (e :: []) X.env = (false, eval e X.env) :: starEach [] X.env := by rfl) : Ev X B (.Tuple [e] k1 pos) σ F (M.bind m fun x => M.pure (Tp.mk [x])) := by
  refine ⟨fun F1 H1 N Q E R W pins s tk I e1 e2 bx hm c => ?_⟩
  refine (pe_tup (pa_cons ha.pe pa_nil hs)).run pins s σ H1 R I (tEv_mk tk e1 e2 bx hm c.ex fun x N2 v F2 H2 q g b i => ?_)
  refine ⟨by show 1 ≤ sizeLine; rw [sizeLine_eq]; decide, fun p np => ?_⟩
  have g2 : Gd B.at_ F2 H2 (upd F2 p (.tup [v])) (upd H2 p (.tup [v])) := Gd.new g.sub np
  exact c.ok (Tp.mk [x]) N2 _ _ _ q (g.trans g2) (b.new np) ⟨p, [v], rfl, upd_same, v, [], rfl, i.mono g2.f, rfl⟩
/-- a def that is called by keywords: the names ks, put right by the def -/
def OkK (P : Program) (w : World) (K : PySem.W.Frag) (mg : Str → Option Value) (base : Heap) (B : Box) (k : Nat) (f : Addr) (ps ks : List Str) {A ρ : Type} [ToD ρ] (enc : A → List L3.D) (mir : A → M ρ) : Prop :=
  ∃ fd, FnOk P w K mg base (L2.CX P w) k f fd ps (spM K B enc mir) ∧ (∀ (s : Shared) (us : List Value), us.length = ks.length → BindsTo s fd ⟨[], ks.zip us⟩ (ps.zip us)) ∧ PySem.W.keepIn K (.ref f) = true
theorem ev_kw1 {α : Type} [ToD α] {B : Box} {m : M α} {kf : Nat} {f : Addr} {x nm : Str} {kp : Pos} {enc : α × Unit → List L3.D} {mir : α × Unit → M ρ} (o : OkK X.prog X.w X.K X.mg X.base B kf f [nm] [nm] enc mir) (hr : Room kf X.A) (hg : Gl X x) (hm : X.mg x = some (.ref f)) (ha : Ev X B e σ F m) (henc : ∀ p, enc p = [toD p.1])
    (hall : (backToKw pos (keywordEach [⟨some nm, e, kp⟩] X.env)).all (·.1.isSome) = true := by rfl) (hks : (backToKw pos (keywordEach [⟨some nm, e, kp⟩] X.env)).filterMap (·.1) = [nm] := by rfl)
    (hdb : (x == ("__debug__" : Str)) = false := by decide) (hpl : ((backTo pos (starEach [] X.env)).any (·.1) || (backToKw pos (keywordEach [⟨some nm, e, kp⟩] X.env)).any (·.1.isNone)) = false := by rfl) : Ev X B (.Call (.Name x p1) [] [⟨some nm, e, kp⟩] pos) σ F (M.bind m fun y => mir (y, ())) := by
  obtain ⟨fd, Fn, hb, hk⟩ := o
  refine ⟨fun F1 H1 N Q E R W pins s tk I e1 e2 bx hm' c => ?_⟩
  refine wpAny_Call_Name_kw (ld_glob I hg hm ?_ hdb)
  refine PySem.W.callWith_KW0 (h₀ := X.base) I.ok.mod.kin hk hall (thn ((pk_cons ha.pe pk_nil).run pos pins s σ H1 (fun vs H2 => spM X.K B enc mir vs H2 R (fun c d H' => W c d σ H')) I (tEv_mk tk e1 e2 bx hm' c.ex fun y N2 v F2 H2 q g b i => ?_)) fun us s1 ⟨vs, H2, I2, r2, q2⟩ => ⟨I2.kIn, ?_⟩) hpl
  · exact ⟨F2, N2, (y, ()), Q, E, g.sub, b, by rw [henc]; exact ⟨v, [], rfl, i, rfl⟩, q, c.mono g⟩
  · rw [hks]
    have hl : us.length = 1 := by rw [← r2.length]; exact Fn.len _ _ _ _ q2
    show wpAny _ _ (call (.ref f) [] ([nm].zip us)) _ _ _
    refine wpAny_call (codeAny_mono (Fn.run X.A X.stack s1 H2 ⟨[], [nm].zip us⟩ us vs R _ hr I2.env0 (hb s1 us hl) r2 q2) fun r s' hq => ?_)
    cases r with
    | error e => exact tk _ _ (XE.of_call I2 (fun _ _ _ h => h) hq)
    | ok fl =>
      cases fl with
      | ret u => exact I2.after hq
      | next => exact False.elim hq
      | brk => exact False.elim hq
      | cont => exact False.elim hq
end
end L3

set_option Elab.async false
set_option linter.all false
set_option maxRecDepth 100000
set_option maxHeartbeats 4000000
/-! x in [..], x an instance with its own ==. -/
namespace L3
open PySem PySem.Spec PyProof.Rows L2 ToD
open AutoSeq1 (wpAny_loadPart')
open MeetsSeq MeetsSeq2 MeetsSeq3 SeqRoads2
section
variable {prog : Program} {w : World} {A : Around} {E : Value → Shared → Prop} {s : Shared} {K : PySem.W.Frag} {x C : Addr} {ox : Obj} {od : Option Obj}
/-- a built-in's == declines the instance -/
theorem decl_list {l : Addr} {Q : Value → Shared → Prop} (Xk : K.In s.heap) (I : PySem.W.InstAt s.heap x ox C od) (hm : PySem.W.mroIn K C (.type "list") = some false) (hT : s.TypeIs (.ref l) "list") (h : Q .notImplemented s) :
    wpAny (model prog w) A (call (.builtin "list.__eq__") [.ref l, .ref x]) Q E s := by
  have isub : PySem.W.Looks (model prog w) s.heap (isInstance (.ref x) (.type "list")) false := I.type.andThen (PySem.W.looks_mroIn Xk hm)
  refine GQ.call_here F.slot_list_eq hT F.entry_list_eq (F.args_list_eq_2 _ _) ?_
  unfold Builtin.«list.__eq__»
  refine wpAny_bind (wpAny_of_eq (a := (.ref l, [.ref x])) (by first | rfl | kernel_rfl) ?_)
  refine wpAny_bind (isub.here ?_)
  simp only [Bool.not_false, if_true]
  exact wpAny_pure (show wants Q E (.ok (.ret .notImplemented)) s from h)
theorem decl_tuple {l : Addr} {Q : Value → Shared → Prop} (Xk : K.In s.heap) (I : PySem.W.InstAt s.heap x ox C od) (hm : PySem.W.mroIn K C (.type "tuple") = some false) (hT : s.TypeIs (.ref l) "tuple") (h : Q .notImplemented s) :
    wpAny (model prog w) A (call (.builtin "tuple.__eq__") [.ref l, .ref x]) Q E s := by
  have isub : PySem.W.Looks (model prog w) s.heap (isInstance (.ref x) (.type "tuple")) false := I.type.andThen (PySem.W.looks_mroIn Xk hm)
  refine GQ.call_here F.slot_tuple_eq hT F.entry_tuple_eq (F.args_tuple_eq_2 _ _) ?_
  unfold Builtin.«tuple.__eq__»
  refine wpAny_bind (wpAny_of_eq (a := (.ref l, [.ref x])) (by first | rfl | kernel_rfl) ?_)
  refine wpAny_bind (isub.here ?_)
  simp only [Bool.not_false, if_true]
  exact wpAny_pure (show wants Q E (.ok (.ret .notImplemented)) s from h)
theorem decl_none {Q : Value → Shared → Prop} (h : Q .notImplemented s) : wpAny (model prog w) A (call (.builtin "NoneType.__eq__") [.none, .ref x]) Q E s :=
  call_gives F.slot_NoneType_eq_refl rfl F.entry_NoneType_eq (F.args_NoneType_eq_2 _ _) (SeqAt.NoneType___eq___none_ref_0 x) h
theorem decl_str {y : Str} {t : Tok} {Q : Value → Shared → Prop} {dx : Addr} (hx : s.heap.get? x = some (PySem.W.instObj C dx)) (h : Q .notImplemented s) : wpAny (model prog w) A (call (.builtin "str.__eq__") [.str y t, .ref x]) Q E s := by
  refine GQ.call_here F.slot_str_eq (typeIs_str _ _ _) F.entry_str_eq (F.args_str_eq_2 _ _) ?_
  obtain ⟨hp, g, d, tk, os⟩ := s
  wp_walk using wpAny_loadPart' hx
  exact h
theorem decl_int {y : Int} {t : Tok} {Q : Value → Shared → Prop} {dx : Addr} (hx : s.heap.get? x = some (PySem.W.instObj C dx)) (h : Q .notImplemented s) : wpAny (model prog w) A (call (.builtin "int.__eq__") [.int y t, .ref x]) Q E s := by
  refine GQ.call_here F.slot_int_eq (typeIs_int _ _ _) F.entry_int_eq (F.args_int_eq_2 _ _) ?_
  obtain ⟨hp, g, d, tk, os⟩ := s
  wp_walk using wpAny_loadPart' hx
  exact h
theorem decl_bool {y : Bool} {Q : Value → Shared → Prop} {dx : Addr} (hx : s.heap.get? x = some (PySem.W.instObj C dx)) (h : Q .notImplemented s) : wpAny (model prog w) A (call (.builtin "int.__eq__") [.bool y, .ref x]) Q E s := by
  refine GQ.call_here F.slot_bool_eq (show s.TypeIs (.bool y) "bool" from rfl) F.entry_int_eq (F.args_int_eq_2 _ _) ?_
  obtain ⟨hp, g, d, tk, os⟩ := s
  wp_walk using wpAny_loadPart' hx
  exact h
/-- a value of a built-in class beside the instance: its == declines, the instance's own one answers -/
structure Decl (prog : Program) (w : World) (s : Shared) (x : Addr) (y : Value) (T : String) : Prop where
  ty : s.TypeIs y T
  no : oneThing? .Eq y (.ref x) = none
  ne : (y == Value.ref x) = false
  nf : ∀ b t, y ≠ .float b t
  go : ∀ (A : Around) (E : Value → Shared → Prop) (Q : Option Value → Shared → Prop), Q none s → wpAny (model prog w) A (tryCompare y "__eq__" (.ref x)) Q E s
theorem rc_left {y : Value} {T : String} {f : Addr} {Q : Value → Shared → Prop} (hu : A.units < cLine) (Xk : K.In s.heap) (I : PySem.W.InstAt s.heap x ox C od) (d : Decl prog w s x y T) (sub : PySem.W.subIn K (.ref C) (.type T) = some false)
    (hs : PySem.W.findIn K (.ref C) "__eq__" = some (some (.ref f))) (hf : PySem.W.isFn K (.ref f) = true) (h : wpAny (model prog w) A (call (.ref f) [.ref x, y]) (PySem.W.CmpBack Q) E s) : wpAny (model prog w) A (richCompare .Eq y (.ref x)) Q E s := by
  have one : wpAny (model prog w) A (tryCompare (.ref x) "__eq__" y) (fun r s' => ∃ v, r = some v ∧ Q v s') E s := by
    unfold tryCompare
    refine wpAny_bind (PySem.W.ifBound_K Xk I hs hf (wpAny_mono h (fun v s' hv => ?_) fun _ _ e => e))
    cases v <;> first | exact hv.elim | exact wpAny_pure ⟨_, rfl, hv⟩
  unfold richCompare
  simp only [d.no]
  refine wpAny_holding (wpAny_bind (wpAny_cRoomFor hu ?_))
  refine wpAny_bind (wpAny_typeOf d.ty (wpAny_bind (I.type.here ?_)))
  split
  · refine wpAny_bind ((PySem.W.looks_subIn Xk sub).here ?_)
    simp only [Bool.false_eq_true, if_false, Bool.not_false, if_true]
    refine wpAny_bind (m := tryCompare y _ (.ref x)) (wpAny_mono (d.go A E (fun r s' => r = none ∧ s' = s) ⟨rfl, rfl⟩) (fun r s1 z => ?_) fun _ _ e => e)
    obtain ⟨z1, z2⟩ := z
    subst z1
    subst z2
    refine wpAny_bind (m := tryCompare (.ref x) _ y) (wpAny_mono one (fun r s' z => ?_) fun _ _ e => e)
    obtain ⟨v, rfl, hq⟩ := z
    exact wpAny_pure hq
  · rename_i q
    exact absurd (by simp) q
theorem eqBool_left {y : Value} {T : String} {f : Addr} {Q : Bool → Shared → Prop} (hu : A.units < cLine) (Xk : K.In s.heap) (I : PySem.W.InstAt s.heap x ox C od) (d : Decl prog w s x y T) (sub : PySem.W.subIn K (.ref C) (.type T) = some false)
    (hs : PySem.W.findIn K (.ref C) "__eq__" = some (some (.ref f))) (hf : PySem.W.isFn K (.ref f) = true) (h : wpAny (model prog w) A (call (.ref f) [.ref x, y]) (fun v s' => ∃ b, v = .bool b ∧ Q b s') E s) : wpAny (model prog w) A (eqBool y (.ref x)) Q E s := by
  have rc := rc_left (Q := fun v s' => ∃ b, v = .bool b ∧ Q b s') hu Xk I d sub hs hf (wpAny_mono h (fun v s' hv => by obtain ⟨b, rfl, q⟩ := hv; exact ⟨b, rfl, q⟩) fun _ _ e => e)
  unfold eqBool
  refine wpAny_holding ?_
  refine wpAny_ite_split (fun hab => absurd hab (by rw [d.ne]; simp)) (fun _ => ?_)
  dsimp only
  split
  · rename_i e1
    cases (Prod.mk.inj e1).2
  · refine wpAny_bind (wpAny_mono rc (fun v s' hv => ?_) fun _ _ x => x)
    obtain ⟨r, rfl, q⟩ := hv
    exact wpAny_truthy_bool q
/-- list.__contains__ where each == may change the state; the list is read anew at each turn -/
theorem contains_loopG {R : Result → Shared → Prop} (l : Addr) (m : Nat) (x : Value) (e : Nat → Bool) (I : Nat → Shared → Prop)
    (hl : ∀ i s, I i s → ∃ (items : Array Value) (n : Nat), s.heap.get? l = some { cls := .type "list", data := .seq items n } ∧ items.size = m ∧
      ∀ h : i < items.size, wpAny (model prog w) A.in1 (eqBool items[i] x) (fun r s' => r = e i ∧ I (i + 1) s') (fun er s' => R (.error er) s') s)
    (finT : ∀ i s, i < m → e i = true → I (i + 1) s → R (.ok (.ret (.bool true))) s) (finF : ∀ s, (∀ j, j < m → e j = false) → I m s → R (.ok (.ret (.bool false))) s) (k : Nat) :
    ∀ i : Nat, m - i = k → i ≤ m → (∀ j, j < i → e j = false) → ∀ s, I i s →
      wpAny (model prog w) A.in1 (Builtin.«list.__contains__.loop» ⟨[.ref l, x, rawInt i], []⟩) (GQ.FinOf prog w A R) (fun e s' => R (.error e) s') s := by
  induction k with
  | zero =>
    intro i hk hi hn s h
    obtain ⟨items, n, hl1, hs, _⟩ := hl _ _ h
    have hi' : i = m := by omega
    have hR := finF s (fun j hj => hn j (by omega)) (hi' ▸ h)
    obtain ⟨hp, g, d, tk, os⟩ := s
    wp_walk using wpAny_loadPart' hl1
    have hi1 : items[((i : Nat) : Int).toNat]? = none := by simp; omega
    rw [hi1]
    wp_walk
    exact hR
  | succ k ih =>
    intro i hk hi hn s h
    obtain ⟨items, n, hl1, hs, turn⟩ := hl _ _ h
    have hlt : i < items.size := by omega
    have ht := turn hlt
    obtain ⟨hp, g, d, tk, os⟩ := s
    wp_walk using wpAny_loadPart' hl1
    have hi1 : items[((i : Nat) : Int).toNat]? = some items[i] := by simp [hlt]
    have hc : ((i : Int) + 1) = ((i + 1 : Nat) : Int) := by omega
    rw [hi1]
    refine wpAny_bind (wpAny_mono ht (fun r s2 h2 => ?_) fun _ _ x => x)
    obtain ⟨hr, h2⟩ := h2
    cases hb : e i with
    | true =>
      have hR := finT i s2 (by omega) hb h2
      rw [hr, hb]
      obtain ⟨hp2, g2, d2, tk2, os2⟩ := s2
      wp_walk
      exact hR
    | false =>
      have hrec := ih (i + 1) (by omega) (by omega) (fun j hj => by
        by_cases e1 : j = i
        · rw [e1]; exact hb
        · exact hn j (by omega)) s2 h2
      rw [hr, hb]
      obtain ⟨hp2, g2, d2, tk2, os2⟩ := s2
      wp_walk
      rw [hc]
      exact ⟨plainId_quiet plain_contains_loop _, codeAny_builtin entry_contains_loop (by
        rw [Around.under_plainId plain_contains_loop _]
        exact hrec)⟩
theorem containsG {Q : Value → Shared → Prop} (l : Addr) (m : Nat) (x : Value) (e : Nat → Bool) (I : Nat → Shared → Prop) (hI : I 0 s)
    (hl : ∀ i s, I i s → ∃ (items : Array Value) (n : Nat), s.heap.get? l = some { cls := .type "list", data := .seq items n } ∧ items.size = m ∧
      ∀ h : i < items.size, wpAny (model prog w) A.in1 (eqBool items[i] x) (fun r s' => r = e i ∧ I (i + 1) s') E s)
    (finT : ∀ i s, i < m → e i = true → I (i + 1) s → Q (.bool true) s) (finF : ∀ s, (∀ j, j < m → e j = false) → I m s → Q (.bool false) s) :
    wpAny (model prog w) A (compareOp .In x (.ref l)) Q E s := by
  obtain ⟨items, n, hl1, hs, _⟩ := hl _ _ hI
  show wpAny _ A (do return .bool (← contains (.ref l) x)) Q E s
  refine wpAny_bind (wpAny_contains_slot (T := "list") ⟨_, hl1, rfl⟩ F.slot_list_contains (GQ.call_here F.slot_list_contains ⟨_, hl1, rfl⟩ F.entry_list_contains (F.args_list_contains_2 _ _) ?_))
  have go := contains_loopG (A := A) (prog := prog) (w := w) (R := wants (fun r s' => wpAny (model prog w) A (truthy r) (fun b s' => wpAny (model prog w) A (pure (.bool b)) Q E s') E s') E) l m x e I hl
    (fun i s' h1 h2 h3 => wpAny_truthy_bool (wpAny_pure (finT i s' h1 h2 h3))) (fun s' h1 h2 => wpAny_truthy_bool (wpAny_pure (finF s' h1 h2))) (m - 0) 0 rfl (Nat.zero_le _) (fun j hj => absurd hj (Nat.not_lt_zero _)) s hI
  obtain ⟨hp, g, d, tk, os⟩ := s
  wp_walk using wpAny_loadPart' hl1
  exact ⟨plainId_quiet plain_contains_loop _, codeAny_builtin entry_contains_loop (by
    rw [Around.under_plainId plain_contains_loop _]
    exact go)⟩
end
/-! ### x in [..] -/
def leftOk : D → Bool
  | .non => true
  | .bool _ => true
  | .int _ => true
  | .str _ => true
  | .lst _ => true
  | .tup _ => true
  | _ => false
def leftTags : List String := ["NoneType", "bool", "int", "str", "list", "tuple"]
structure LeftC (K : PySem.W.Frag) : Prop where
  sub : ∀ t ∈ leftTags, PySem.W.subIn K (.ref (qC K)) (.type t) = some false
  mL : PySem.W.mroIn K (qC K) (.type "list") = some false
  mT : PySem.W.mroIn K (qC K) (.type "tuple") = some false
def fLeft : Fc := fun K => leftTags.all (fun t => decide (PySem.W.subIn K (.ref (qC K)) (.type t) = some false)) && (decide (PySem.W.mroIn K (qC K) (.type "list") = some false) && decide (PySem.W.mroIn K (qC K) (.type "tuple") = some false))
theorem fLeft_ok {K : PySem.W.Frag} (c : fLeft K = true) : LeftC K := by
  obtain ⟨c1, c⟩ := He.ba c
  obtain ⟨c2, c3⟩ := He.ba c
  exact ⟨fun t ht => of_decide_eq_true (List.all_eq_true.mp c1 t ht), of_decide_eq_true c2, of_decide_eq_true c3⟩
section
variable {X : Cx} {B : Box} {σ : L2.St} {F H : Hp} {pins : List (Addr × Obj)} {s : Shared}
theorem decl_of {x dx : Addr} {fs : List (Str × V)} {d : D} {v : V} {y : Value} (LC : LeftC X.K) (I : Inv X pins σ H s) (hx : H x = some (.ins (qC X.K) dx fs)) (i : Is X.K B.at_ F d v) (e : Ex F H) (r : RelV v y) (ok : leftOk d = true) : ∃ T ∈ leftTags, Decl X.prog X.w s x y T := by
  obtain ⟨mA, O, _⟩ := ins_get I.hok hx
  obtain ⟨od, J, _⟩ := O.look
  have hget : s.heap.get? x = some (PySem.W.instObj (qC X.K) dx) := (I.hok x _ hx).2.2.2.1
  cases d with
  | non =>
    have e1 : v = .non := i
    subst e1
    cases r
    exact ⟨"NoneType", by simp [leftTags], rfl, rfl, rfl, fun _ _ z => (by cases z), fun A E Q q => wpAny_tryCompare_declines (T := "NoneType") rfl PySem.F.slot_NoneType_eq (decl_none ⟨rfl, q⟩)⟩
  | bool b =>
    have e1 : v = .bl b := i
    subst e1
    cases r
    exact ⟨"bool", by simp [leftTags], rfl, rfl, rfl, fun _ _ z => (by cases z), fun A E Q q => wpAny_tryCompare_declines (T := "bool") rfl PySem.F.slot_bool_eq (decl_bool hget ⟨rfl, q⟩)⟩
  | int b =>
    have e1 : v = .int b := i
    subst e1
    obtain ⟨t, rfl⟩ := r
    exact ⟨"int", by simp [leftTags], rfl, rfl, rfl, fun _ _ z => (by cases z), fun A E Q q => wpAny_tryCompare_declines (T := "int") rfl PySem.F.slot_int_eq (decl_int hget ⟨rfl, q⟩)⟩
  | str b =>
    have e1 : v = .str b := i
    subst e1
    obtain ⟨t, rfl⟩ := r
    exact ⟨"str", by simp [leftTags], rfl, rfl, rfl, fun _ _ z => (by cases z), fun A E Q q => wpAny_tryCompare_declines (T := "str") rfl PySem.F.slot_str_eq (decl_str hget ⟨rfl, q⟩)⟩
  | lst ds =>
    obtain ⟨a, vs, rfl, h2, _⟩ := i
    obtain rfl : y = Value.ref a := r
    obtain ⟨_, its, n, _, hg⟩ := I.hok a _ (e _ _ h2)
    have hne : a ≠ x := fun z => by
      have := e _ _ h2
      rw [z, hx] at this
      cases this
    have hT : s.TypeIs (.ref a) "list" := ⟨_, hg, rfl⟩
    exact ⟨"list", by simp [leftTags], hT, rfl, by simp [hne], fun _ _ z => (by cases z), fun A E Q q => wpAny_tryCompare_declines hT PySem.F.slot_list_eq (decl_list I.kIn J LC.mL hT ⟨rfl, q⟩)⟩
  | tup ds =>
    obtain ⟨a, vs, rfl, h2, _⟩ := i
    obtain rfl : y = Value.ref a := r
    obtain ⟨_, its, _, hg⟩ := I.hok a _ (e _ _ h2)
    have hne : a ≠ x := fun z => by
      have := e _ _ h2
      rw [z, hx] at this
      cases this
    have hT : s.TypeIs (.ref a) "tuple" := by
      obtain ⟨o, h1, h2, _⟩ := hg
      exact ⟨o, h1, h2⟩
    exact ⟨"tuple", by simp [leftTags], hT, rfl, by simp [hne], fun _ _ z => (by cases z), fun A E Q q => wpAny_tryCompare_declines hT PySem.F.slot_tuple_eq (decl_tuple I.kIn J LC.mT hT ⟨rfl, q⟩)⟩
  | _ => cases ok
end
end L3

set_option Elab.async false
set_option linter.all false
set_option maxRecDepth 100000
set_option maxHeartbeats 4000000
/-! x in [..]: the rule. -/
namespace L3
open PySem PySem.Spec PyProof.Rows L2 ToD
def rInQ (K : PySem.W.Frag) (B : Box) (eqf : Rat → D → Bool) : R2X := fun v u H R _ => ∃ (F : Hp) (N : Nat) (q : Rat) (ds : List D), Ex F H ∧ Bx B F H N ∧ Is K B.at_ F (toD q) v ∧ Is K B.at_ F (toD ds) u ∧ ds.all leftOk = true ∧
  ∀ F2 H2, Gd B.at_ F H F2 H2 → Bx B F2 H2 N → R (.bl (ds.any (eqf q))) H2
section
variable {X : Cx} {B : Box} {σ : L2.St} {F : Hp} {lv : Nat} {ps : List Str} {mir : Rat × D × Unit → M Bool} {eqf : Rat → D → Bool} {e a b : Expr} {pos : Pos} {m1 : M Rat} {m2 : M (List D)} {whole : Sem Value}
theorem any_nth {f : D → Bool} : ∀ {ds : List D}, (∀ j, j < ds.length → (ds[j]?).elim false f = false) → ds.any f = false
  | [], _ => rfl
  | d :: ds, h => by
    have h0 : f d = false := h 0 (by simp)
    rw [List.any_cons, h0, any_nth (fun j hj => h (j + 1) (by simpa using hj))]
    rfl
theorem any_nthT {f : D → Bool} {ds : List D} {i : Nat} (h : (ds[i]?).elim false f = true) : ds.any f = true := by
  cases q : ds[i]? with
  | none => rw [q] at h; cases h
  | some d =>
    rw [q] at h
    exact List.any_eq_true.mpr ⟨d, List.mem_of_getElem? q, h⟩
theorem opx_in (hmir : ∀ q d N Q E, leftOk d = true → Q (eqf q d) N → mir (q, d, ()) N Q E) (T : MetC X.prog X.w X.K X.mg X.base B "__eq__" lv ps enc2 mir) (LC : LeftC X.K) (hr : Room (lv + 1) X.A) : OpX X (compareOp .In) (rInQ X.K B eqf) := by
  intro pins s σ H x y v u R W tk I r1 r2 h
  obtain ⟨F, N, q, ds, e, b, i1, i2, ok, k⟩ := h
  rw [toD_listD] at i2
  obtain ⟨a, dx, rfl, ha⟩ := rat_at i1
  obtain ⟨l, vs, rfl, hl, hd⟩ := i2
  obtain rfl : v = Value.ref a := r1
  obtain rfl : u = Value.ref l := r2
  have len : vs.length = ds.length := hd.length
  refine containsG (E := X.xe) l ds.length (.ref a) (fun j => (ds[j]?).elim false (eqf q)) (fun i s' => ∃ F' H', Inv X pins σ H' s' ∧ Gd B.at_ F H F' H' ∧ Bx B F' H' N) ⟨F, H, I, Gd.refl e, b⟩ ?_ ?_ ?_
  · rintro i s' ⟨F', H', I', g', b'⟩
    obtain ⟨its, n, rv, hget, _⟩ := I'.lst (g'.sub _ _ (g'.f _ _ hl))
    have hsz : its.toArray.size = ds.length := by rw [List.size_toArray, ← rv.length, len]
    refine ⟨its.toArray, n, hget, hsz, fun hi => ?_⟩
    have hi2 : i < ds.length := by omega
    obtain ⟨w, hw, iw⟩ := isL_nth (ds[i]) i ds vs hd (by rw [List.getElem?_eq_getElem hi2]; rfl)
    obtain ⟨y, hy, ry⟩ := Vals.get rv hw
    have hit : its.toArray[i] = y := by
      have : its.toArray[i]? = some y := by simpa using hy
      have h2 : its.toArray[i]? = some (its.toArray[i]) := by simp [hi]
      rw [this] at h2
      exact (Option.some.inj h2).symm
    have okd : leftOk ds[i] = true := List.all_eq_true.mp ok _ (List.getElem_mem hi2)
    have hx : H' a = some (.ins (qC X.K) dx (ratF q)) := g'.sub _ _ (g'.f _ _ ha)
    obtain ⟨Tg, hT, dc⟩ := decl_of LC I' hx (iw.mono g'.f) g'.sub ry okd
    obtain ⟨mA, O, _⟩ := ins_get I'.hok hx
    obtain ⟨od, J, _⟩ := O.look
    rw [hit]
    have hge : (ds[i]?).elim false (eqf q) = eqf q ds[i] := by simp [hi2]
    refine eqBool_left (by have := hr.un; show X.A.units + 1 < cLine; omega) I'.kIn J dc (LC.sub Tg hT) T.f T.i ?_
    refine thn (run_own (R := fun z H2 => ∃ F2, z = .bl (eqf q ds[i]) ∧ Gd B.at_ F' H' F2 H2 ∧ Bx B F2 H2 N) T hr.in1 I'.env0.in1 tk I' (v := .ref a) rfl ry ⟨F', N, (q, ds[i], ()), (fun z N2 => z = eqf q ds[i] ∧ N2 = N), (fun _ _ => False), g'.sub, b', ⟨_, _, rfl, i1.mono g'.f, _, _, rfl, iw.mono g'.f, rfl⟩, hmir _ _ _ _ _ okd ⟨rfl, rfl⟩,
      ⟨fun z N2 w2 F2 H2 hz g2 b2 i2 => ⟨F2, by rw [← hz.1]; exact i2, g2, hz.2 ▸ b2⟩, fun _ _ _ _ _ _ z => z.elim⟩⟩) fun z s2 hz => ?_
    obtain ⟨z', H2, I2, rz, F2, ez, g2, b2⟩ := hz
    subst ez
    cases rz
    exact ⟨_, rfl, hge.symm, F2, H2, I2, g'.trans g2, b2⟩
  · rintro i s' hi he ⟨F', H', I', g', b'⟩
    have q2 := k F' H' g' b'
    rw [any_nthT he] at q2
    exact ⟨.bl true, H', I', rfl, q2⟩
  · rintro s' hn ⟨F', H', I', g', b'⟩
    have q2 := k F' H' g' b'
    rw [any_nth hn] at q2
    exact ⟨.bl false, H', I', rfl, q2⟩
theorem opm_in : ∀ (x : Rat) (y : List D), OpM X.K B (rInQ X.K B eqf) x y (M.ask (y.all leftOk = true) (M.pure (y.any (eqf x)))) := fun x y F H N Q E R Z v u e b i1 i2 q c =>
  ⟨F, N, x, y, e, b, i1, i2, q.1, fun F2 H2 g b2 => c.ok _ N _ F2 H2 q.2 g b2 rfl⟩
theorem ev_inQ (hmir : ∀ q d N Q E, leftOk d = true → Q (eqf q d) N → mir (q, d, ()) N Q E) (T : MetC X.prog X.w X.K X.mg X.base B "__eq__" lv ps enc2 mir) (LC : LeftC X.K) (hr : Room (lv + 1) X.A) (ha : Ev X B a σ F m1) (hb : Ev X B b σ F m2) (hk : behindInMarks .In b = false := by rfl) :
    Ev X B (.Compare a [.In] [b] pos) σ F (M.bind m1 fun x => M.bind m2 fun y => M.ask (y.all leftOk = true) (M.pure (y.any (eqf x)))) := ev_cmp (opx_in hmir T LC hr) ha hb opm_in hk
theorem et_inQ (hmir : ∀ q d N Q E, leftOk d = true → Q (eqf q d) N → mir (q, d, ()) N Q E) (T : MetC X.prog X.w X.K X.mg X.base B "__eq__" lv ps enc2 mir) (LC : LeftC X.K) (hr : Room (lv + 1) X.A) (ha : Ev X B a σ F m1) (hb : Ev X B b σ F m2) (hk : behindInMarks .In b = false := by rfl) :
    EtW X B (.Compare a [.In] [b] pos) σ F whole (M.bind m1 fun x => M.bind m2 fun y => M.ask (y.all leftOk = true) (M.pure (y.any (eqf x)))) := et_cmp (opx_in hmir T LC hr) ha hb opm_in hk
end
end L3

set_option Elab.async false
set_option linter.all false
set_option maxRecDepth 100000
set_option maxHeartbeats 4000000
/-! [.. for .. in .. if ..]. -/
namespace L3
open PySem PySem.Spec PyProof.Rows L2 ToD
namespace M
variable {α β : Type}
/-- m raises nothing -/
@[reducible] def quiet (m : M α) : M α := fun N Q _ => m N Q fun _ _ => False
def lc (mt : α → M Bool) (me : α → M β) : List α → M (List β)
  | [] => pure []
  | x :: xs => bind (quiet (mt x)) fun b => cond b (bind (quiet (me x)) fun y => bind (lc mt me xs) fun ys => pure (y :: ys)) (lc mt me xs)
end M
section
variable {X : Cx} {B : Box} {σ : L2.St} {F : Hp} {α β : Type} [ToD α] [ToD β]
/-- the tests of a comprehension -/
structure Ets (X : Cx) (B : Box) (ifs : List Expr) (σ : L2.St) (F : Hp) (m : M Bool) : Prop where
  run : ∀ (F1 H1 : Hp) (N : Nat) (Q : Bool → Nat → Prop) (R : Bool → Hp → Prop) (pins : List (Addr × Obj)) (s : Shared), Inv X pins σ H1 s → Ex F F1 → Ex F1 H1 → Bx B F1 H1 N → m N Q (fun _ _ => False) →
    (∀ x N F2 H2, Q x N → Gd B.at_ F1 H1 F2 H2 → Bx B F2 H2 N → R x H2) → (∀ u s, ¬ X.xe u s) →
    wpAny (model X.prog X.w) X.A (forIn ifs true fun c r => if r = true then do let ok ← isTrue c X.env (eval c X.env); pure (ForInStep.yield ok) else pure (ForInStep.yield r)) (TP X pins σ R) X.xe s
theorem takes_no {X : Cx} : Takes X (fun _ _ _ _ => False) := fun u s' ⟨_, _, _, _, _, _, _, _, _, _, _, _, _, _, _, _, z⟩ => z.elim
theorem ets_nil : Ets X B [] σ F (M.pure true) := ⟨fun F1 H1 N Q R pins s I e1 e2 bx hm k nx => pts_nil.run pins s σ H1 R I (k true N F1 H1 hm (Gd.refl e2) bx)⟩
theorem ets_one {c : Expr} {m : M Bool} (h : Et X B c σ F m) : Ets X B [c] σ F m := ⟨fun F1 H1 N Q R pins s I e1 e2 bx hm k nx =>
  (pts_one h.pt).run pins s σ H1 R I (tEt_mk takes_no e1 e2 bx hm (fun _ _ _ _ _ _ z => z.elim) fun x N2 F2 H2 q g b => k x N2 F2 H2 q g b)⟩
theorem IsL.snoc {K : PySem.W.Frag} {p : Option Addr} {F : Hp} : ∀ {ds : List D} {vs : List V} {d : D} {v : V}, IsL K p F ds vs → Is K p F d v → IsL K p F (ds ++ [d]) (vs ++ [v])
  | [], _, d, v, h, i => by
    have e : _ = [] := h
    subst e
    exact ⟨v, [], rfl, i, rfl⟩
  | d0 :: ds, _, d, v, h, i => by
    obtain ⟨w, r, rfl, h1, h2⟩ := h
    exact ⟨w, r ++ [v], rfl, h1, IsL.snoc h2 i⟩
theorem Gd.own {p : Option Addr} {F H F1 H1 : Hp} {D : Addr} {o : HO} (g : Gd p F H F1 H1) (n : H D = none) (f : F1 D = none) : Gd p F H F1 (upd H1 D o) where
  h := fun a u ha q => by
    rw [upd_ne (ne_of_none q n)]
    exact g.h a u ha q
  f := g.f
  sub := g.sub.updN f
  sep := g.sep
  live := fun a q => by
    by_cases ha : a = D
    · rw [ha, upd_same] at q; cases q
    · rw [upd_ne ha] at q; exact g.live a q
theorem ev_lc {tg iter elt : Expr} {ifs : List Expr} {scope : Scope} {own : List (Str × Nat)} {pos : Pos} {mx : M (List α)} {mt : α → M Bool} {me : α → M β} {put : α → L2.St → Hp → L2.St → Prop} {g : TG} (hi : EvI X B tg iter σ F mx) (ok : BlkOk X.N X.env.scope scope own)
    (hg : ∀ (s : Shared) (H : Hp) (C : Addr) (cl : List (Str × Addr)) (fp : List Addr), PG (X.blk s H scope (compEnvC scope cl C X.env) fp) tg g)
    (hput : ∀ (x : α) (v : V) (σ : L2.St) (F H : Hp) (P : L2.St → Hp → Prop), Ex F H → Is X.K B.at_ F (toD x) v → (∀ σ', put x σ F σ' → P σ' H) → g v σ H P)
    (hw : ∀ x F1 σ1, put x (wipe σ (own.map (·.2))) F1 σ1 → wipe σ1 (own.map (·.2)) = wipe σ (own.map (·.2)))
    (ht : ∀ (s : Shared) (H : Hp) (C : Addr) (cl : List (Str × Addr)) (fp : List Addr) (x : α) (σ1 : L2.St) (F1 : Hp), Ex F F1 → put x (wipe σ (own.map (·.2))) F1 σ1 → Ets (X.blk s H scope (compEnvC scope cl C X.env) fp) B ifs σ1 F1 (mt x))
    (he : ∀ (s : Shared) (H : Hp) (C : Addr) (cl : List (Str × Addr)) (fp : List Addr) (x : α) (σ1 : L2.St) (F1 : Hp), Ex F F1 → put x (wipe σ (own.map (·.2))) F1 σ1 → Ev (X.blk s H scope (compEnvC scope cl C X.env) fp) B elt σ1 F1 (me x))
    (hc : X.calm = true) (hN : X.N.Nodup) (hs : ∀ x, foldedSetIterable iter X.env x = pure x := by intro _; rfl) :
    Ev X B (.ListComp elt [⟨tg, iter, ifs, 0⟩] scope pos) σ F (M.bind mx fun xs => M.ask (xs.length ≤ 1000000) (M.lc mt me xs)) := by
  obtain ⟨wi, pi, hwi⟩ := hi
  refine ⟨fun F0 H0 N0 Q E R W pins s tk I e1 e2 bx hm c => ?_⟩
  let vs := own.map (·.2)
  let tt : TT := fun σ1 H1 R => ∃ (x : α) (Fp F1 : Hp) (N : Nat) (Q : Bool → Nat → Prop), Ex F Fp ∧ put x (wipe σ vs) Fp σ1 ∧ Ex Fp F1 ∧ Ex F1 H1 ∧ Bx B F1 H1 N ∧ mt x N Q (fun _ _ => False) ∧ ∀ y N F2 H2, Q y N → Gd B.at_ F1 H1 F2 H2 → Bx B F2 H2 N → R y H2
  let te : TE := fun σ1 H1 R => ∃ (x : α) (Fp F1 : Hp) (N : Nat) (Q : β → Nat → Prop), Ex F Fp ∧ put x (wipe σ vs) Fp σ1 ∧ Ex Fp F1 ∧ Ex F1 H1 ∧ Bx B F1 H1 N ∧ me x N Q (fun _ _ => False) ∧ ∀ y N v F2 H2, Q y N → Gd B.at_ F1 H1 F2 H2 → Bx B F2 H2 N → Is X.K B.at_ F2 (toD y) v → R v H2
  have ptt : ∀ (s : Shared) (H : Hp) (C : Addr) (cl : List (Str × Addr)) (fp : List Addr), PTs (X.blk s H scope (compEnvC scope cl C X.env) fp) ifs tt := fun s H C cl fp => ⟨fun pins' s' σ' H' Q' I' h => by
    obtain ⟨x, Fp, F1, N, Q1, h1, h2, h3, h4, h5, h6, h7⟩ := h
    exact (ht s H C cl fp x σ' Fp h1 h2).run F1 H' N Q1 Q' pins' s' I' h3 h4 h5 h6 h7 (fun _ _ z => z)⟩
  have pte : ∀ (s : Shared) (H : Hp) (C : Addr) (cl : List (Str × Addr)) (fp : List Addr), PE (X.blk s H scope (compEnvC scope cl C X.env) fp) elt te := fun s H C cl fp => ⟨fun pins' s' σ' H' Q' I' h => by
    obtain ⟨x, Fp, F1, N, Q1, h1, h2, h3, h4, h5, h6, h7⟩ := h
    exact (he s H C cl fp x σ' Fp h1 h2).run F1 H' N Q1 (fun _ _ => False) Q' (fun _ _ _ _ => False) pins' s' takes_no I' h3 h4 h5 h6 ⟨h7, fun _ _ _ _ _ _ z => z.elim⟩⟩
  refine (pe_lc hc hN pi ok hg ptt pte hs).run pins s σ H0 R I ?_
  refine hwi F0 H0 N0 _ E W _ tk e1 e2 bx hm c.ex fun xs N1 J F1 H1 q g1 b1 it D nD => ?_
  obtain ⟨hlen, q⟩ := q
  have nb : B.at_ ≠ some D := fun z => by
    obtain ⟨_, ws, h2, _⟩ := b1 D z
    rw [nD] at h2
    cases h2
  let Inv1 : Nat → Hp → Prop := fun i H => i ≤ xs.length ∧ ∃ (Fi : Hp) (Ni : Nat) (ys : List β) (acc : List V), H D = some (.lst acc) ∧ Fi D = none ∧ IsL X.K B.at_ Fi (ys.map toD) acc ∧ Gd B.at_ F1 H1 Fi H ∧ Bx B Fi H Ni ∧ ys.length ≤ i ∧ M.lc mt me (xs.drop i) Ni (fun zs N' => Q (ys ++ zs) N') E
  refine ⟨fun i m H => m = xs.length - i ∧ Inv1 i H, ⟨xs.length, rfl, Nat.zero_le _, F1, N1, [], [], upd_same, g1.sub.none nD, rfl, Gd.newO g1.sub nD, ?_, Nat.le_refl _, q⟩, ?_⟩
  · exact fun z hz => by
      obtain ⟨h1, ws, h2, h3⟩ := b1 z hz
      exact ⟨h1, ws, by rw [upd_ne (ne_of_none h2 nD)]; exact h2, h3⟩
  rintro i m H ⟨rfl, hi, Fi, Ni, ys, acc, hD, fD, hys, gi, bi, hyl, ql⟩
  by_cases hlt : i < xs.length
  · refine .inr ⟨it.go i Fi H gi.f gi.sub hlt, Inv1 (i + 1), fun H' h => ⟨xs.length - (i + 1), by omega, rfl, h⟩, fun v H' y => ?_⟩
    have hx : xs[i]? = some xs[i] := by simp [hlt]
    obtain ⟨F3, g3, is3⟩ := it.yld i Fi H v H' xs[i] gi.f gi.sub hx y
    have g3' : Gd B.at_ Fi H F3 H' := g3.weak
    have b3 : Bx B F3 H' Ni := bi.keep g3
    rw [List.drop_eq_getElem_cons hlt] at ql
    have keepD : ∀ {Fa Ha Fb Hb : Hp} {ac : List V}, Gd B.at_ Fa Ha Fb Hb → Ha D = some (.lst ac) → Fa D = none → Hb D = some (.lst ac) ∧ Fb D = none := fun {Fa Ha Fb Hb ac} g h1 h2 => by
      refine ⟨g.h D _ nb h1, ?_⟩
      cases z : Fb D with
      | none => rfl
      | some o =>
        rcases g.sep D o z with z | z
        · rw [h2] at z; cases z
        · rw [h1] at z; cases z
    obtain ⟨hD3, fD3⟩ := keepD g3' hD fD
    have hFF3 : Ex F F3 := (e1.trans g1.f).trans ((gi.f).trans g3'.f)
    refine hput xs[i] v (wipe σ vs) F3 H' _ g3.sub is3 fun σ1 hp1 => ⟨hw _ _ _ hp1, ?_⟩
    refine ⟨xs[i], F3, F3, Ni, _, hFF3, hp1, Ex.refl F3, g3.sub, b3, ql, fun b N4 F4 H4 q4 g4 b4 => ?_⟩
    obtain ⟨hD4, fD4⟩ := keepD g4 hD3 fD3
    have gi4 : Gd B.at_ F1 H1 F4 H4 := gi.trans (g3'.trans g4)
    cases b with
    | false =>
      rw [if_neg (by simp)]
      exact ⟨hlt, F4, N4, ys, acc, hD4, fD4, (hys.mono g3'.f).mono g4.f, gi4, b4, by omega, q4⟩
    | true =>
      rw [if_pos rfl]
      refine ⟨xs[i], F3, F4, N4, _, hFF3, hp1, g4.f, g4.sub, b4, q4, fun y N5 v5 F5 H5 q5 g5 b5 i5 => ?_⟩
      obtain ⟨hD5, fD5⟩ := keepD g5 hD4 fD4
      have hy5 : IsL X.K B.at_ F5 (ys.map toD) acc := ((hys.mono g3'.f).mono g4.f).mono g5.f
      have hal : acc.length = ys.length := by rw [hy5.length, List.length_map]
      refine ⟨acc, hD5, by rw [hal, sizeLine_eq]; omega, hlt, F5, N5, ys ++ [y], acc ++ [v5], upd_same, fD5, ?_, ?_, ?_, by rw [List.length_append]; simpa using hyl, ?_⟩
      · rw [List.map_append]
        exact hy5.snoc i5
      · exact (gi4.trans g5).own nD fD5
      · exact fun z hz => by
          obtain ⟨k1, ws, k2, k3⟩ := b5 z hz
          have hz2 : z ≠ D := fun e => nb (by rw [← e]; exact hz)
          exact ⟨k1, ws, by rw [upd_ne hz2]; exact k2, k3⟩
      · have e : (fun zs N' => Q (ys ++ [y] ++ zs) N') = (fun zs N' => Q (ys ++ (y :: zs)) N') := by
          funext zs N'
          rw [List.append_assoc]
          rfl
        rw [e]
        exact q5
  · have ei : i = xs.length := by omega
    subst ei
    rw [List.drop_length] at ql
    refine .inl ⟨it.stop _ Fi H gi.f gi.sub (Nat.le_refl _), ?_⟩
    have ql' : Q (ys ++ []) Ni := ql
    rw [List.append_nil] at ql'
    have gf : Gd B.at_ F1 H1 (upd Fi D (.lst acc)) H := {
      h := gi.h
      f := gi.f.trans (Ex.new fD)
      sub := fun a o z => by
        by_cases ha : a = D
        · rw [ha, upd_same] at z
          cases z
          rw [ha]
          exact hD
        · rw [upd_ne ha] at z
          exact gi.sub a o z
      sep := fun a o z => by
        by_cases ha : a = D
        · exact .inr (ha ▸ nD)
        · rw [upd_ne ha] at z
          exact gi.sep a o z
      live := gi.live }
    refine c.ok ys Ni _ _ _ ql' (g1.trans gf) ?_ ⟨D, acc, rfl, upd_same, hys.mono (Ex.new fD)⟩
    exact fun z hz => by
      obtain ⟨k1, ws, k2, k3⟩ := bi z hz
      have hz2 : z ≠ D := fun e => nb (by rw [← e]; exact hz)
      exact ⟨by rw [upd_ne hz2]; exact k1, ws, k2, k3⟩
end
end L3

set_option Elab.async false
set_option linter.all false
set_option maxRecDepth 100000
set_option maxHeartbeats 4000000
/-! An empty dict; a comprehension's name. -/
namespace L3
open PySem PySem.Spec PyProof.Rows L2 ToD
section
variable {X : Cx} {B : Box} {σ : L2.St} {F : Hp} {pos : Pos} {α β : Type} [ToD α] [ToD β]
theorem ev_dict0 : Ev X B (.Dict [] [] pos) σ F (M.pure (D.dK [] [])) := by
  refine ⟨fun F1 H1 N Q E R W pins s tk I e1 e2 bx hm c => ?_⟩
  refine pe_dnewK.run pins s σ H1 R I fun p np => ?_
  have g2 : Gd B.at_ F1 H1 (upd F1 p (.dK [])) (upd H1 p (.dK [])) := Gd.new e2 np
  exact c.ok _ N _ _ _ hm g2 (bx.new np) ⟨p, [], rfl, upd_same, rfl, rfl⟩
/-- a comprehension whose target is a name -/
theorem ev_lcN {iter elt : Expr} {ifs : List Expr} {scope : Scope} {n : Str} {i : Nat} {pt : Pos} {mx : M (List α)} {mt : α → M Bool} {me : α → M β} (hi : EvI X B (.Name n pt) iter σ F mx) (ok : BlkOk X.N X.env.scope scope [(n, i)]) (hni : X.N[i]? = some n)
    (ht : ∀ (s : Shared) (H : Hp) (C : Addr) (cl : List (Str × Addr)) (fp : List Addr) (x : α) (v : V) (F1 : Hp), Ex F F1 → Is X.K B.at_ F1 (toD x) v → Ets (X.blk s H scope (compEnvC scope cl C X.env) fp) B ifs ((σ.set i none).set i (some v)) F1 (mt x))
    (he : ∀ (s : Shared) (H : Hp) (C : Addr) (cl : List (Str × Addr)) (fp : List Addr) (x : α) (v : V) (F1 : Hp), Ex F F1 → Is X.K B.at_ F1 (toD x) v → Ev (X.blk s H scope (compEnvC scope cl C X.env) fp) B elt ((σ.set i none).set i (some v)) F1 (me x))
    (hc : X.calm = true) (hN : X.N.Nodup) (hx : ∀ (s : Shared) (H : Hp) (C : Addr) (cl : List (Str × Addr)) (fp : List Addr), Loc (X.blk s H scope (compEnvC scope cl C X.env) fp).env.scope n := by first | exact fun _ _ _ _ _ => .inl rfl | exact fun _ _ _ _ _ => .inr rfl)
    (hfn : ∀ (s : Shared) (H : Hp) (C : Addr) (cl : List (Str × Addr)) (fp : List Addr), (X.blk s H scope (compEnvC scope cl C X.env) fp).fn n = true ∨ (X.blk s H scope (compEnvC scope cl C X.env) fp).env.scope.names.lookup n = some .local := by first | exact fun _ _ _ _ _ => .inr rfl | exact fun _ _ _ _ _ => .inl rfl) (hs : ∀ x, foldedSetIterable iter X.env x = pure x := by intro _; rfl) :
    Ev X B (.ListComp elt [⟨.Name n pt, iter, ifs, 0⟩] scope pos) σ F (M.bind mx fun xs => M.ask (xs.length ≤ 1000000) (M.lc mt me xs)) := by
  refine ev_lc (own := [(n, i)]) (put := fun x σ F σ' => ∃ v, Is X.K B.at_ F (toD x) v ∧ σ' = σ.set i (some v)) (g := gName i) hi ok (fun s H C cl fp => pg_name (i := i) hN hni (hx s H C cl fp) (hfn s H C cl fp)) (fun x v σ F H P e h k => k _ ⟨v, h, rfl⟩) ?_ ?_ ?_ hc hN hs
  · rintro x F1 σ1 ⟨v, _, rfl⟩
    show (((σ.set i none).set i (some v)).set i none) = σ.set i none
    rw [List.set_set, List.set_set]
  · rintro s H C cl fp x σ1 F1 e ⟨v, iv, rfl⟩
    exact ht s H C cl fp x v F1 e iv
  · rintro s H C cl fp x σ1 F1 e ⟨v, iv, rfl⟩
    exact he s H C cl fp x v F1 e iv
end
end L3

set_option Elab.async false
set_option linter.all false
set_option maxRecDepth 100000
set_option maxHeartbeats 4000000
/-! The text of the law by places; what its top has left. -/
namespace L3
open PySem PySem.Spec PyProof.Rows L2 ToD
def top (i : Nat) : Stmt := PySem.Challenge.pw_kindsmeet_k02_ratios.main.body.getD i (.Pass ⟨0, 0, 0, 0⟩)

abbrev d_ByZero___init__ : Stmt := inClass (top 2) 0
theorem sc_ByZero___init__ : FnScope ["self"] ["self"] (defScope d_ByZero___init__) := ⟨rfl, rfl, rfl, by decide +kernel, rfl, by decide +kernel, by decide +kernel⟩
abbrev d_BadText___init__ : Stmt := inClass (top 3) 0
theorem sc_BadText___init__ : FnScope ["self"] ["self"] (defScope d_BadText___init__) := ⟨rfl, rfl, rfl, by decide +kernel, rfl, by decide +kernel, by decide +kernel⟩
abbrev d_BadNumber___init__ : Stmt := inClass (top 4) 0
theorem sc_BadNumber___init__ : FnScope ["self", "given"] ["self", "given"] (defScope d_BadNumber___init__) := ⟨rfl, rfl, rfl, by decide +kernel, rfl, by decide +kernel, by decide +kernel⟩
abbrev d_is_integer : Stmt := top 7
theorem sc_is_integer : FnScope ["value"] ["value"] (defScope d_is_integer) := ⟨rfl, rfl, rfl, by decide +kernel, rfl, by decide +kernel, by decide +kernel⟩
abbrev d_is_number : Stmt := top 8
theorem sc_is_number : FnScope ["value"] ["value"] (defScope d_is_number) := ⟨rfl, rfl, rfl, by decide +kernel, rfl, by decide +kernel, by decide +kernel⟩
abbrev d_common_divisor : Stmt := top 9
theorem sc_common_divisor : FnScope ["one", "other"] ["one", "other"] (defScope d_common_divisor) := ⟨rfl, rfl, rfl, by decide +kernel, rfl, by decide +kernel, by decide +kernel⟩
abbrev d_Ratio___init__ : Stmt := inClass (top 10) 0
theorem sc_Ratio___init__ : FnScope ["self", "top", "bottom", "divisor"] ["self", "top", "bottom"] (defScope d_Ratio___init__) := ⟨rfl, rfl, rfl, by decide +kernel, rfl, by decide +kernel, by decide +kernel⟩
abbrev d_Ratio_top : Stmt := inClass (top 10) 1
theorem sc_Ratio_top : FnScope ["self"] ["self"] (defScope d_Ratio_top) := ⟨rfl, rfl, rfl, by decide +kernel, rfl, by decide +kernel, by decide +kernel⟩
abbrev d_Ratio_bottom : Stmt := inClass (top 10) 2
theorem sc_Ratio_bottom : FnScope ["self"] ["self"] (defScope d_Ratio_bottom) := ⟨rfl, rfl, rfl, by decide +kernel, rfl, by decide +kernel, by decide +kernel⟩
abbrev d_Ratio___add__ : Stmt := inClass (top 10) 3
theorem sc_Ratio___add__ : FnScope ["self", "number", "other"] ["self", "number"] (defScope d_Ratio___add__) := ⟨rfl, rfl, rfl, by decide +kernel, rfl, by decide +kernel, by decide +kernel⟩
abbrev d_Ratio___sub__ : Stmt := inClass (top 10) 4
theorem sc_Ratio___sub__ : FnScope ["self", "number", "other"] ["self", "number"] (defScope d_Ratio___sub__) := ⟨rfl, rfl, rfl, by decide +kernel, rfl, by decide +kernel, by decide +kernel⟩
abbrev d_Ratio___mul__ : Stmt := inClass (top 10) 5
theorem sc_Ratio___mul__ : FnScope ["self", "number", "other"] ["self", "number"] (defScope d_Ratio___mul__) := ⟨rfl, rfl, rfl, by decide +kernel, rfl, by decide +kernel, by decide +kernel⟩
abbrev d_Ratio___neg__ : Stmt := inClass (top 10) 6
theorem sc_Ratio___neg__ : FnScope ["self"] ["self"] (defScope d_Ratio___neg__) := ⟨rfl, rfl, rfl, by decide +kernel, rfl, by decide +kernel, by decide +kernel⟩
abbrev d_Ratio___eq__ : Stmt := inClass (top 10) 7
theorem sc_Ratio___eq__ : FnScope ["self", "other"] ["self", "other"] (defScope d_Ratio___eq__) := ⟨rfl, rfl, rfl, by decide +kernel, rfl, by decide +kernel, by decide +kernel⟩
abbrev d_Ratio___lt__ : Stmt := inClass (top 10) 8
theorem sc_Ratio___lt__ : FnScope ["self", "number", "other"] ["self", "number"] (defScope d_Ratio___lt__) := ⟨rfl, rfl, rfl, by decide +kernel, rfl, by decide +kernel, by decide +kernel⟩
abbrev d_Ratio___le__ : Stmt := inClass (top 10) 9
theorem sc_Ratio___le__ : FnScope ["self", "number", "other"] ["self", "number"] (defScope d_Ratio___le__) := ⟨rfl, rfl, rfl, by decide +kernel, rfl, by decide +kernel, by decide +kernel⟩
abbrev d_Ratio_over : Stmt := inClass (top 10) 10
theorem sc_Ratio_over : FnScope ["self", "number", "other"] ["self", "number"] (defScope d_Ratio_over) := ⟨rfl, rfl, rfl, by decide +kernel, rfl, by decide +kernel, by decide +kernel⟩
abbrev d_Ratio_text : Stmt := inClass (top 10) 11
theorem sc_Ratio_text : FnScope ["self"] ["self"] (defScope d_Ratio_text) := ⟨rfl, rfl, rfl, by decide +kernel, rfl, by decide +kernel, by decide +kernel⟩
abbrev d_Ratio_read : Stmt := inClass (top 10) 12
theorem sc_Ratio_read : FnScope ["cls", "text", "top", "slash", "bottom", "under"] ["cls", "text"] (defScope d_Ratio_read) := ⟨rfl, rfl, rfl, by decide +kernel, rfl, by decide +kernel, by decide +kernel⟩
abbrev d_is_whole : Stmt := top 11
theorem sc_is_whole : FnScope ["word", "sign"] ["word"] (defScope d_is_whole) := ⟨rfl, rfl, rfl, by decide +kernel, rfl, by decide +kernel, by decide +kernel⟩
abbrev d_as_ratio : Stmt := top 12
theorem sc_as_ratio : FnScope ["given"] ["given"] (defScope d_as_ratio) := ⟨rfl, rfl, rfl, by decide +kernel, rfl, by decide +kernel, by decide +kernel⟩
abbrev d_total : Stmt := top 13
theorem sc_total : FnScope ["numbers", "found", "number"] ["numbers"] (defScope d_total) := ⟨rfl, rfl, rfl, by decide +kernel, rfl, by decide +kernel, by decide +kernel⟩
abbrev d__law_box : Stmt := top 15
theorem sc__law_box : FnScope ["_law_script", "_law_k", "_law_cell"] ["_law_script", "_law_k"] (defScope d__law_box) := ⟨rfl, rfl, rfl, by decide +kernel, rfl, by decide +kernel, by decide +kernel⟩
abbrev d__law_take : Stmt := top 16
theorem sc__law_take : FnScope ["_law_box_here", "_law_many", "_law_digit", "_law_blend"] ["_law_box_here", "_law_many"] (defScope d__law_take) := ⟨rfl, rfl, rfl, by decide +kernel, rfl, by decide +kernel, by decide +kernel⟩
abbrev d__law_whole : Stmt := top 17
theorem sc__law_whole : FnScope ["_law_box_here", "_law_big"] ["_law_box_here"] (defScope d__law_whole) := ⟨rfl, rfl, rfl, by decide +kernel, rfl, by decide +kernel, by decide +kernel⟩
abbrev d__law_is : Stmt := top 18
theorem sc__law_is : FnScope ["_law_ratio", "_law_top", "_law_bottom", "_law_one", "_law_other"] ["_law_ratio", "_law_top", "_law_bottom"] (defScope d__law_is) := ⟨rfl, rfl, rfl, by decide +kernel, rfl, by decide +kernel, by decide +kernel⟩
abbrev d__law_reckoned : Stmt := top 19
theorem sc__law_reckoned : FnScope ["_law_one", "_law_a", "_law_b", "_law_other", "_law_c", "_law_d", "_law_left", "_law_right"] ["_law_one", "_law_a", "_law_b", "_law_other", "_law_c", "_law_d"] (defScope d__law_reckoned) := ⟨rfl, rfl, rfl, by decide +kernel, rfl, by decide +kernel, by decide +kernel⟩
abbrev d__law_refused : Stmt := top 20
theorem sc__law_refused : FnScope ["_law_thing", "e"] ["_law_thing"] (defScope d__law_refused) := ⟨rfl, rfl, rfl, by decide +kernel, rfl, by decide +kernel, by decide +kernel⟩
abbrev d__law_by_zero : Stmt := top 21
theorem sc__law_by_zero : FnScope ["_law_one", "_law_count", "_law_way"] ["_law_one"] (defScope d__law_by_zero) := ⟨rfl, rfl, rfl, by decide +kernel, rfl, by decide +kernel, by decide +kernel⟩
abbrev d_law : Stmt := top 22
theorem sc_law : FnScope ["_law_script", "_law_k", "_law_box_here", "_law_a", "_law_b", "_law_c", "_law_d", "_law_one", "_law_other", "_law_whole_here", "_law_thing"] ["_law_script"] (defScope d_law) := ⟨rfl, rfl, rfl, by decide +kernel, rfl, by decide +kernel, by decide +kernel⟩
def fn : List Df := ([⟨atM "ByZero" "__init__", "__init__", "ByZero.__init__", defArgs d_ByZero___init__, defBody d_ByZero___init__, defScope d_ByZero___init__, []⟩,
  ⟨atM "BadText" "__init__", "__init__", "BadText.__init__", defArgs d_BadText___init__, defBody d_BadText___init__, defScope d_BadText___init__, []⟩,
  ⟨atM "BadNumber" "__init__", "__init__", "BadNumber.__init__", defArgs d_BadNumber___init__, defBody d_BadNumber___init__, defScope d_BadNumber___init__, []⟩,
  ⟨atG "is_integer", "is_integer", "is_integer", defArgs d_is_integer, defBody d_is_integer, defScope d_is_integer, []⟩,
  ⟨atG "is_number", "is_number", "is_number", defArgs d_is_number, defBody d_is_number, defScope d_is_number, []⟩,
  ⟨atG "common_divisor", "common_divisor", "common_divisor", defArgs d_common_divisor, defBody d_common_divisor, defScope d_common_divisor, []⟩,
  ⟨atM "Ratio" "__init__", "__init__", "Ratio.__init__", defArgs d_Ratio___init__, defBody d_Ratio___init__, defScope d_Ratio___init__, [.int 1]⟩,
  ⟨atP "Ratio" "top", "top", "Ratio.top", defArgs d_Ratio_top, defBody d_Ratio_top, defScope d_Ratio_top, []⟩,
  ⟨atP "Ratio" "bottom", "bottom", "Ratio.bottom", defArgs d_Ratio_bottom, defBody d_Ratio_bottom, defScope d_Ratio_bottom, []⟩,
  ⟨atM "Ratio" "__add__", "__add__", "Ratio.__add__", defArgs d_Ratio___add__, defBody d_Ratio___add__, defScope d_Ratio___add__, []⟩,
  ⟨atM "Ratio" "__sub__", "__sub__", "Ratio.__sub__", defArgs d_Ratio___sub__, defBody d_Ratio___sub__, defScope d_Ratio___sub__, []⟩,
  ⟨atM "Ratio" "__mul__", "__mul__", "Ratio.__mul__", defArgs d_Ratio___mul__, defBody d_Ratio___mul__, defScope d_Ratio___mul__, []⟩,
  ⟨atM "Ratio" "__neg__", "__neg__", "Ratio.__neg__", defArgs d_Ratio___neg__, defBody d_Ratio___neg__, defScope d_Ratio___neg__, []⟩,
  ⟨atM "Ratio" "__eq__", "__eq__", "Ratio.__eq__", defArgs d_Ratio___eq__, defBody d_Ratio___eq__, defScope d_Ratio___eq__, []⟩,
  ⟨atM "Ratio" "__lt__", "__lt__", "Ratio.__lt__", defArgs d_Ratio___lt__, defBody d_Ratio___lt__, defScope d_Ratio___lt__, []⟩,
  ⟨atM "Ratio" "__le__", "__le__", "Ratio.__le__", defArgs d_Ratio___le__, defBody d_Ratio___le__, defScope d_Ratio___le__, []⟩,
  ⟨atM "Ratio" "over", "over", "Ratio.over", defArgs d_Ratio_over, defBody d_Ratio_over, defScope d_Ratio_over, []⟩,
  ⟨atM "Ratio" "text", "text", "Ratio.text", defArgs d_Ratio_text, defBody d_Ratio_text, defScope d_Ratio_text, []⟩,
  ⟨atC "Ratio" "read", "read", "Ratio.read", defArgs d_Ratio_read, defBody d_Ratio_read, defScope d_Ratio_read, []⟩,
  ⟨atG "is_whole", "is_whole", "is_whole", defArgs d_is_whole, defBody d_is_whole, defScope d_is_whole, []⟩,
  ⟨atG "as_ratio", "as_ratio", "as_ratio", defArgs d_as_ratio, defBody d_as_ratio, defScope d_as_ratio, []⟩,
  ⟨atG "total", "total", "total", defArgs d_total, defBody d_total, defScope d_total, []⟩,
  ⟨atG "_law_box", "_law_box", "_law_box", defArgs d__law_box, defBody d__law_box, defScope d__law_box, []⟩,
  ⟨atG "_law_take", "_law_take", "_law_take", defArgs d__law_take, defBody d__law_take, defScope d__law_take, []⟩,
  ⟨atG "_law_whole", "_law_whole", "_law_whole", defArgs d__law_whole, defBody d__law_whole, defScope d__law_whole, []⟩,
  ⟨atG "_law_is", "_law_is", "_law_is", defArgs d__law_is, defBody d__law_is, defScope d__law_is, []⟩,
  ⟨atG "_law_reckoned", "_law_reckoned", "_law_reckoned", defArgs d__law_reckoned, defBody d__law_reckoned, defScope d__law_reckoned, []⟩,
  ⟨atG "_law_refused", "_law_refused", "_law_refused", defArgs d__law_refused, defBody d__law_refused, defScope d__law_refused, []⟩,
  ⟨atG "_law_by_zero", "_law_by_zero", "_law_by_zero", defArgs d__law_by_zero, defBody d__law_by_zero, defScope d__law_by_zero, []⟩,
  ⟨atG "law", "law", "law", defArgs d_law, defBody d_law, defScope d_law, []⟩] : List Df)
def fa : List Fc := ([fGlo "is_integer",
  fGlo "is_number",
  fGlo "common_divisor",
  fGlo "is_whole",
  fGlo "as_ratio",
  fGlo "total",
  fGlo "_law_box",
  fGlo "_law_take",
  fGlo "_law_whole",
  fGlo "_law_is",
  fGlo "_law_reckoned",
  fGlo "_law_refused",
  fGlo "_law_by_zero",
  fGlo "law",
  fGlo "KindsError",
  fGlo "ByZero",
  fGlo "BadText",
  fGlo "BadNumber",
  fGlo "Ratio",
  fFree "isinstance",
  fFree "int",
  fFree "bool",
  fFree "abs",
  fFree "str",
  fFree "all",
  fFree "len",
  fFree "sum",
  fFree "max",
  fFree "repr",
  fFree "range"] : List Fc) ++ ([fFree "min",
  fStr "DIGITS" "0123456789",
  fErr "ByZero",
  fErr "BadText",
  fErr "BadNumber",
  fNoat "BadNumber" "given",
  fExm "ByZero" "BadNumber" false,
  fExm "BadText" "BadNumber" false,
  fExm "BadNumber" "BadNumber" true,
  fXf "BadNumber",
  fExm "ByZero" "ByZero" true,
  fExm "BadText" "ByZero" false,
  fExm "BadNumber" "ByZero" false,
  fRead "KindsError",
  fInit "KindsError",
  fCls "Ratio",
  fNoat "Ratio" "own_top",
  fNoat "Ratio" "own_bottom",
  fMkr "Ratio",
  fProp "Ratio" "top",
  fProp "Ratio" "bottom",
  fMeth "Ratio" "__add__",
  fMeth "Ratio" "__sub__",
  fMeth "Ratio" "__mul__",
  fMeth "Ratio" "__neg__",
  fMeth "Ratio" "__eq__",
  fMeth "Ratio" "__lt__",
  fMeth "Ratio" "__le__",
  fMeth "Ratio" "over",
  fMeth "Ratio" "text"] : List Fc) ++ ([fCmeth "Ratio" "read",
  fRead "Ratio",
  fBin "add",
  fBin "sub",
  fBin "mul",
  fCmp,
  fLeft,
  fNe,
  fIns "Ratio"] : List Fc)
def names : List PySem.Str := (["KindsError", "ByZero", "BadText", "BadNumber", "DIGITS", "is_integer", "is_number", "common_divisor", "Ratio", "is_whole", "as_ratio", "total", "_law_box", "_law_take", "_law_whole", "_law_is", "_law_reckoned", "_law_refused", "_law_by_zero"] : List PySem.Str)
structure TF (K : PySem.W.Frag) (mg : Str → Option Value) (h : Heap) : Prop where
  X : K.In h
  G : h.Ns mainGlobals mg
  c : SaysB fa fn K
section
variable {K : PySem.W.Frag} {mg : Str → Option Value} {h : Heap}
theorem TF.g_is_integer (T : TF K mg h) : mg "is_integer" = some (.ref (He.ga K "is_integer")) := fGlo_ok T.X T.G (T.c.fact 0)
theorem TF.g_is_number (T : TF K mg h) : mg "is_number" = some (.ref (He.ga K "is_number")) := fGlo_ok T.X T.G (T.c.fact 1)
theorem TF.g_common_divisor (T : TF K mg h) : mg "common_divisor" = some (.ref (He.ga K "common_divisor")) := fGlo_ok T.X T.G (T.c.fact 2)
theorem TF.g_is_whole (T : TF K mg h) : mg "is_whole" = some (.ref (He.ga K "is_whole")) := fGlo_ok T.X T.G (T.c.fact 3)
theorem TF.g_as_ratio (T : TF K mg h) : mg "as_ratio" = some (.ref (He.ga K "as_ratio")) := fGlo_ok T.X T.G (T.c.fact 4)
theorem TF.g_total (T : TF K mg h) : mg "total" = some (.ref (He.ga K "total")) := fGlo_ok T.X T.G (T.c.fact 5)
theorem TF.g__law_box (T : TF K mg h) : mg "_law_box" = some (.ref (He.ga K "_law_box")) := fGlo_ok T.X T.G (T.c.fact 6)
theorem TF.g__law_take (T : TF K mg h) : mg "_law_take" = some (.ref (He.ga K "_law_take")) := fGlo_ok T.X T.G (T.c.fact 7)
theorem TF.g__law_whole (T : TF K mg h) : mg "_law_whole" = some (.ref (He.ga K "_law_whole")) := fGlo_ok T.X T.G (T.c.fact 8)
theorem TF.g__law_is (T : TF K mg h) : mg "_law_is" = some (.ref (He.ga K "_law_is")) := fGlo_ok T.X T.G (T.c.fact 9)
theorem TF.g__law_reckoned (T : TF K mg h) : mg "_law_reckoned" = some (.ref (He.ga K "_law_reckoned")) := fGlo_ok T.X T.G (T.c.fact 10)
theorem TF.g__law_refused (T : TF K mg h) : mg "_law_refused" = some (.ref (He.ga K "_law_refused")) := fGlo_ok T.X T.G (T.c.fact 11)
theorem TF.g__law_by_zero (T : TF K mg h) : mg "_law_by_zero" = some (.ref (He.ga K "_law_by_zero")) := fGlo_ok T.X T.G (T.c.fact 12)
theorem TF.g_law (T : TF K mg h) : mg "law" = some (.ref (He.ga K "law")) := fGlo_ok T.X T.G (T.c.fact 13)
theorem TF.g_KindsError (T : TF K mg h) : mg "KindsError" = some (.ref (He.ga K "KindsError")) := fGlo_ok T.X T.G (T.c.fact 14)
theorem TF.g_ByZero (T : TF K mg h) : mg "ByZero" = some (.ref (He.ga K "ByZero")) := fGlo_ok T.X T.G (T.c.fact 15)
theorem TF.g_BadText (T : TF K mg h) : mg "BadText" = some (.ref (He.ga K "BadText")) := fGlo_ok T.X T.G (T.c.fact 16)
theorem TF.g_BadNumber (T : TF K mg h) : mg "BadNumber" = some (.ref (He.ga K "BadNumber")) := fGlo_ok T.X T.G (T.c.fact 17)
theorem TF.g_Ratio (T : TF K mg h) : mg "Ratio" = some (.ref (He.ga K "Ratio")) := fGlo_ok T.X T.G (T.c.fact 18)
theorem TF.n_isinstance (T : TF K mg h) : mg "isinstance" = none := fFree_ok T.X T.G (T.c.fact 19)
theorem TF.n_int (T : TF K mg h) : mg "int" = none := fFree_ok T.X T.G (T.c.fact 20)
theorem TF.n_bool (T : TF K mg h) : mg "bool" = none := fFree_ok T.X T.G (T.c.fact 21)
theorem TF.n_abs (T : TF K mg h) : mg "abs" = none := fFree_ok T.X T.G (T.c.fact 22)
theorem TF.n_str (T : TF K mg h) : mg "str" = none := fFree_ok T.X T.G (T.c.fact 23)
theorem TF.n_all (T : TF K mg h) : mg "all" = none := fFree_ok T.X T.G (T.c.fact 24)
theorem TF.n_len (T : TF K mg h) : mg "len" = none := fFree_ok T.X T.G (T.c.fact 25)
theorem TF.n_sum (T : TF K mg h) : mg "sum" = none := fFree_ok T.X T.G (T.c.fact 26)
theorem TF.n_max (T : TF K mg h) : mg "max" = none := fFree_ok T.X T.G (T.c.fact 27)
theorem TF.n_repr (T : TF K mg h) : mg "repr" = none := fFree_ok T.X T.G (T.c.fact 28)
theorem TF.n_range (T : TF K mg h) : mg "range" = none := fFree_ok T.X T.G (T.c.fact 29)
theorem TF.n_min (T : TF K mg h) : mg "min" = none := fFree_ok T.X T.G (T.c.fact 30)
theorem TF.s_DIGITS (T : TF K mg h) : ∃ t, mg "DIGITS" = some (.str "0123456789" t) := He.str_ok T.X T.G (T.c.fact 31)
theorem TF.e_ByZero (T : TF K mg h) : ErrC K (He.ga K "ByZero") := fErr_ok (T.c.fact 32)
theorem TF.e_BadText (T : TF K mg h) : ErrC K (He.ga K "BadText") := fErr_ok (T.c.fact 33)
theorem TF.e_BadNumber (T : TF K mg h) : ErrC K (He.ga K "BadNumber") := fErr_ok (T.c.fact 34)
theorem TF.na_BadNumber_given (T : TF K mg h) : PySem.W.findIn K (.ref (He.ga K "BadNumber")) "given" = some none := He.eqO_ok (T.c.fact 35)
theorem TF.x_ByZero_BadNumber (T : TF K mg h) : PySem.W.exmOne K (.ref (He.ga K "ByZero")) (.ref (He.ga K "BadNumber")) = some false := fExm_ok (T.c.fact 36)
theorem TF.x_BadText_BadNumber (T : TF K mg h) : PySem.W.exmOne K (.ref (He.ga K "BadText")) (.ref (He.ga K "BadNumber")) = some false := fExm_ok (T.c.fact 37)
theorem TF.x_BadNumber_BadNumber (T : TF K mg h) : PySem.W.exmOne K (.ref (He.ga K "BadNumber")) (.ref (He.ga K "BadNumber")) = some true := fExm_ok (T.c.fact 38)
theorem TF.xf_BadNumber (T : TF K mg h) : XfC K (He.ga K "BadNumber") := fXf_ok (T.c.fact 39)
theorem TF.x_ByZero_ByZero (T : TF K mg h) : PySem.W.exmOne K (.ref (He.ga K "ByZero")) (.ref (He.ga K "ByZero")) = some true := fExm_ok (T.c.fact 40)
theorem TF.x_BadText_ByZero (T : TF K mg h) : PySem.W.exmOne K (.ref (He.ga K "BadText")) (.ref (He.ga K "ByZero")) = some false := fExm_ok (T.c.fact 41)
theorem TF.x_BadNumber_ByZero (T : TF K mg h) : PySem.W.exmOne K (.ref (He.ga K "BadNumber")) (.ref (He.ga K "ByZero")) = some false := fExm_ok (T.c.fact 42)
theorem TF.kr (T : TF K mg h) : fRead "KindsError" K = true := T.c.fact 43
theorem TF.ki (T : TF K mg h) : fInit "KindsError" K = true := T.c.fact 44
theorem TF.q_cl (T : TF K mg h) : Cls K (qC K) := He.cls_ok (T.c.fact 45)
theorem TF.q_own_top (T : TF K mg h) : NoAttr K (qC K) "own_top" := He.noat_ok (T.c.fact 46)
theorem TF.q_own_bottom (T : TF K mg h) : NoAttr K (qC K) "own_bottom" := He.noat_ok (T.c.fact 47)
theorem TF.q_mkr (T : TF K mg h) : Mk K (qC K) (He.ma K (qC K) "__init__") := He.mkr_ok (T.c.fact 48)
theorem TF.q_p_top (T : TF K mg h) : PropOf K (qC K) "top" (He.ma K (qC K) "top") (recFn K "Ratio" "property" "top") := fProp_ok (T.c.fact 49)
theorem TF.q_p_bottom (T : TF K mg h) : PropOf K (qC K) "bottom" (He.ma K (qC K) "bottom") (recFn K "Ratio" "property" "bottom") := fProp_ok (T.c.fact 50)
theorem TF.q_m___add__ (T : TF K mg h) : Meth K (qC K) "__add__" (He.ma K (qC K) "__add__") := He.meth_ok (T.c.fact 51)
theorem TF.q_m___sub__ (T : TF K mg h) : Meth K (qC K) "__sub__" (He.ma K (qC K) "__sub__") := He.meth_ok (T.c.fact 52)
theorem TF.q_m___mul__ (T : TF K mg h) : Meth K (qC K) "__mul__" (He.ma K (qC K) "__mul__") := He.meth_ok (T.c.fact 53)
theorem TF.q_m___neg__ (T : TF K mg h) : Meth K (qC K) "__neg__" (He.ma K (qC K) "__neg__") := He.meth_ok (T.c.fact 54)
theorem TF.q_m___eq__ (T : TF K mg h) : Meth K (qC K) "__eq__" (He.ma K (qC K) "__eq__") := He.meth_ok (T.c.fact 55)
theorem TF.q_m___lt__ (T : TF K mg h) : Meth K (qC K) "__lt__" (He.ma K (qC K) "__lt__") := He.meth_ok (T.c.fact 56)
theorem TF.q_m___le__ (T : TF K mg h) : Meth K (qC K) "__le__" (He.ma K (qC K) "__le__") := He.meth_ok (T.c.fact 57)
theorem TF.q_m_over (T : TF K mg h) : Meth K (qC K) "over" (He.ma K (qC K) "over") := He.meth_ok (T.c.fact 58)
theorem TF.q_m_text (T : TF K mg h) : Meth K (qC K) "text" (He.ma K (qC K) "text") := He.meth_ok (T.c.fact 59)
theorem TF.q_read (T : TF K mg h) : ClX.CMet K (qC K) (.type "type") "read" (He.ma K (qC K) "read") (recFn K "Ratio" "classmethod" "read") := fCmeth_ok (T.c.fact 60)
theorem TF.q_rd (T : TF K mg h) : fRead "Ratio" K = true := T.c.fact 61
theorem TF.q_b_add (T : TF K mg h) : BinC K "add" := fBin_ok (T.c.fact 62)
theorem TF.q_b_sub (T : TF K mg h) : BinC K "sub" := fBin_ok (T.c.fact 63)
theorem TF.q_b_mul (T : TF K mg h) : BinC K "mul" := fBin_ok (T.c.fact 64)
theorem TF.q_cmp (T : TF K mg h) : CmpC K := fCmp_ok (T.c.fact 65)
theorem TF.q_left (T : TF K mg h) : LeftC K := fLeft_ok (T.c.fact 66)
theorem TF.q_ne (T : TF K mg h) : NeC K := fNe_ok (T.c.fact 67)
theorem TF.k_Ratio (T : TF K mg h) : InsC K "Ratio" := fIns_ok (T.c.fact 68)
theorem TF.f_ByZero___init__ (T : TF K mg h) : ∃ fd, FunD K "__init__" "ByZero.__init__" (defArgs d_ByZero___init__) (defBody d_ByZero___init__) (defScope d_ByZero___init__) [] [] ((atM "ByZero" "__init__") K) fd := T.c.def_ 0
theorem TF.f_BadText___init__ (T : TF K mg h) : ∃ fd, FunD K "__init__" "BadText.__init__" (defArgs d_BadText___init__) (defBody d_BadText___init__) (defScope d_BadText___init__) [] [] ((atM "BadText" "__init__") K) fd := T.c.def_ 1
theorem TF.f_BadNumber___init__ (T : TF K mg h) : ∃ fd, FunD K "__init__" "BadNumber.__init__" (defArgs d_BadNumber___init__) (defBody d_BadNumber___init__) (defScope d_BadNumber___init__) [] [] ((atM "BadNumber" "__init__") K) fd := T.c.def_ 2
theorem TF.f_is_integer (T : TF K mg h) : ∃ fd, FunD K "is_integer" "is_integer" (defArgs d_is_integer) (defBody d_is_integer) (defScope d_is_integer) [] [] ((atG "is_integer") K) fd := T.c.def_ 3
theorem TF.f_is_number (T : TF K mg h) : ∃ fd, FunD K "is_number" "is_number" (defArgs d_is_number) (defBody d_is_number) (defScope d_is_number) [] [] ((atG "is_number") K) fd := T.c.def_ 4
theorem TF.f_common_divisor (T : TF K mg h) : ∃ fd, FunD K "common_divisor" "common_divisor" (defArgs d_common_divisor) (defBody d_common_divisor) (defScope d_common_divisor) [] [] ((atG "common_divisor") K) fd := T.c.def_ 5
theorem TF.f_Ratio___init__ (T : TF K mg h) : ∃ fd, FunD K "__init__" "Ratio.__init__" (defArgs d_Ratio___init__) (defBody d_Ratio___init__) (defScope d_Ratio___init__) [V.int 1] [] ((atM "Ratio" "__init__") K) fd := T.c.def_ 6
theorem TF.f_Ratio_top (T : TF K mg h) : ∃ fd, FunD K "top" "Ratio.top" (defArgs d_Ratio_top) (defBody d_Ratio_top) (defScope d_Ratio_top) [] [] ((atP "Ratio" "top") K) fd := T.c.def_ 7
theorem TF.f_Ratio_bottom (T : TF K mg h) : ∃ fd, FunD K "bottom" "Ratio.bottom" (defArgs d_Ratio_bottom) (defBody d_Ratio_bottom) (defScope d_Ratio_bottom) [] [] ((atP "Ratio" "bottom") K) fd := T.c.def_ 8
theorem TF.f_Ratio___add__ (T : TF K mg h) : ∃ fd, FunD K "__add__" "Ratio.__add__" (defArgs d_Ratio___add__) (defBody d_Ratio___add__) (defScope d_Ratio___add__) [] [] ((atM "Ratio" "__add__") K) fd := T.c.def_ 9
theorem TF.f_Ratio___sub__ (T : TF K mg h) : ∃ fd, FunD K "__sub__" "Ratio.__sub__" (defArgs d_Ratio___sub__) (defBody d_Ratio___sub__) (defScope d_Ratio___sub__) [] [] ((atM "Ratio" "__sub__") K) fd := T.c.def_ 10
theorem TF.f_Ratio___mul__ (T : TF K mg h) : ∃ fd, FunD K "__mul__" "Ratio.__mul__" (defArgs d_Ratio___mul__) (defBody d_Ratio___mul__) (defScope d_Ratio___mul__) [] [] ((atM "Ratio" "__mul__") K) fd := T.c.def_ 11
theorem TF.f_Ratio___neg__ (T : TF K mg h) : ∃ fd, FunD K "__neg__" "Ratio.__neg__" (defArgs d_Ratio___neg__) (defBody d_Ratio___neg__) (defScope d_Ratio___neg__) [] [] ((atM "Ratio" "__neg__") K) fd := T.c.def_ 12
theorem TF.f_Ratio___eq__ (T : TF K mg h) : ∃ fd, FunD K "__eq__" "Ratio.__eq__" (defArgs d_Ratio___eq__) (defBody d_Ratio___eq__) (defScope d_Ratio___eq__) [] [] ((atM "Ratio" "__eq__") K) fd := T.c.def_ 13
theorem TF.f_Ratio___lt__ (T : TF K mg h) : ∃ fd, FunD K "__lt__" "Ratio.__lt__" (defArgs d_Ratio___lt__) (defBody d_Ratio___lt__) (defScope d_Ratio___lt__) [] [] ((atM "Ratio" "__lt__") K) fd := T.c.def_ 14
theorem TF.f_Ratio___le__ (T : TF K mg h) : ∃ fd, FunD K "__le__" "Ratio.__le__" (defArgs d_Ratio___le__) (defBody d_Ratio___le__) (defScope d_Ratio___le__) [] [] ((atM "Ratio" "__le__") K) fd := T.c.def_ 15
theorem TF.f_Ratio_over (T : TF K mg h) : ∃ fd, FunD K "over" "Ratio.over" (defArgs d_Ratio_over) (defBody d_Ratio_over) (defScope d_Ratio_over) [] [] ((atM "Ratio" "over") K) fd := T.c.def_ 16
theorem TF.f_Ratio_text (T : TF K mg h) : ∃ fd, FunD K "text" "Ratio.text" (defArgs d_Ratio_text) (defBody d_Ratio_text) (defScope d_Ratio_text) [] [] ((atM "Ratio" "text") K) fd := T.c.def_ 17
theorem TF.f_Ratio_read (T : TF K mg h) : ∃ fd, FunD K "read" "Ratio.read" (defArgs d_Ratio_read) (defBody d_Ratio_read) (defScope d_Ratio_read) [] [] ((atC "Ratio" "read") K) fd := T.c.def_ 18
theorem TF.f_is_whole (T : TF K mg h) : ∃ fd, FunD K "is_whole" "is_whole" (defArgs d_is_whole) (defBody d_is_whole) (defScope d_is_whole) [] [] ((atG "is_whole") K) fd := T.c.def_ 19
theorem TF.f_as_ratio (T : TF K mg h) : ∃ fd, FunD K "as_ratio" "as_ratio" (defArgs d_as_ratio) (defBody d_as_ratio) (defScope d_as_ratio) [] [] ((atG "as_ratio") K) fd := T.c.def_ 20
theorem TF.f_total (T : TF K mg h) : ∃ fd, FunD K "total" "total" (defArgs d_total) (defBody d_total) (defScope d_total) [] [] ((atG "total") K) fd := T.c.def_ 21
theorem TF.f__law_box (T : TF K mg h) : ∃ fd, FunD K "_law_box" "_law_box" (defArgs d__law_box) (defBody d__law_box) (defScope d__law_box) [] [] ((atG "_law_box") K) fd := T.c.def_ 22
theorem TF.f__law_take (T : TF K mg h) : ∃ fd, FunD K "_law_take" "_law_take" (defArgs d__law_take) (defBody d__law_take) (defScope d__law_take) [] [] ((atG "_law_take") K) fd := T.c.def_ 23
theorem TF.f__law_whole (T : TF K mg h) : ∃ fd, FunD K "_law_whole" "_law_whole" (defArgs d__law_whole) (defBody d__law_whole) (defScope d__law_whole) [] [] ((atG "_law_whole") K) fd := T.c.def_ 24
theorem TF.f__law_is (T : TF K mg h) : ∃ fd, FunD K "_law_is" "_law_is" (defArgs d__law_is) (defBody d__law_is) (defScope d__law_is) [] [] ((atG "_law_is") K) fd := T.c.def_ 25
theorem TF.f__law_reckoned (T : TF K mg h) : ∃ fd, FunD K "_law_reckoned" "_law_reckoned" (defArgs d__law_reckoned) (defBody d__law_reckoned) (defScope d__law_reckoned) [] [] ((atG "_law_reckoned") K) fd := T.c.def_ 26
theorem TF.f__law_refused (T : TF K mg h) : ∃ fd, FunD K "_law_refused" "_law_refused" (defArgs d__law_refused) (defBody d__law_refused) (defScope d__law_refused) [] [] ((atG "_law_refused") K) fd := T.c.def_ 27
theorem TF.f__law_by_zero (T : TF K mg h) : ∃ fd, FunD K "_law_by_zero" "_law_by_zero" (defArgs d__law_by_zero) (defBody d__law_by_zero) (defScope d__law_by_zero) [] [] ((atG "_law_by_zero") K) fd := T.c.def_ 28
theorem TF.f_law (T : TF K mg h) : ∃ fd, FunD K "law" "law" (defArgs d_law) (defBody d_law) (defScope d_law) [] [] ((atG "law") K) fd := T.c.def_ 29
theorem TF.kb (T : TF K mg h) : BaseC K (He.ga K "KindsError") := fBase_ok T.kr T.ki
def exT (x y : Str) : Option Bool := if x = "ByZero" ∧ y = "BadNumber" then some false else if x = "BadText" ∧ y = "BadNumber" then some false else if x = "BadNumber" ∧ y = "BadNumber" then some true else if x = "ByZero" ∧ y = "ByZero" then some true else if x = "BadText" ∧ y = "ByZero" then some false else if x = "BadNumber" ∧ y = "ByZero" then some false else none
theorem TF.ex (T : TF K mg h) {x y : Str} {b : Bool} (e : exT x y = some b) : PySem.W.exmOne K (.ref (He.ga K x)) (.ref (He.ga K y)) = some b := by
  unfold exT at e
  by_cases q : x = "ByZero" ∧ y = "BadNumber"
  · rw [if_pos q] at e
    obtain ⟨rfl, rfl⟩ := q
    cases e
    exact T.x_ByZero_BadNumber
  rw [if_neg q] at e
  by_cases q : x = "BadText" ∧ y = "BadNumber"
  · rw [if_pos q] at e
    obtain ⟨rfl, rfl⟩ := q
    cases e
    exact T.x_BadText_BadNumber
  rw [if_neg q] at e
  by_cases q : x = "BadNumber" ∧ y = "BadNumber"
  · rw [if_pos q] at e
    obtain ⟨rfl, rfl⟩ := q
    cases e
    exact T.x_BadNumber_BadNumber
  rw [if_neg q] at e
  by_cases q : x = "ByZero" ∧ y = "ByZero"
  · rw [if_pos q] at e
    obtain ⟨rfl, rfl⟩ := q
    cases e
    exact T.x_ByZero_ByZero
  rw [if_neg q] at e
  by_cases q : x = "BadText" ∧ y = "ByZero"
  · rw [if_pos q] at e
    obtain ⟨rfl, rfl⟩ := q
    cases e
    exact T.x_BadText_ByZero
  rw [if_neg q] at e
  by_cases q : x = "BadNumber" ∧ y = "ByZero"
  · rw [if_pos q] at e
    obtain ⟨rfl, rfl⟩ := q
    cases e
    exact T.x_BadNumber_ByZero
  rw [if_neg q] at e
  cases e
end
end L3

set_option Elab.async false
set_option linter.all false
set_option maxRecDepth 100000
set_option maxHeartbeats 4000000
/-! Errors and quotients: the defs of the text keep their promises. -/
namespace L3
open PySem PySem.Spec PyProof.Rows L2 ToD
/-- a def that is called by its name -/
def Ok (P : Program) (w : World) (K : PySem.W.Frag) (mg : Str → Option Value) (base : Heap) (B : Box) (k : Nat) (f : Addr) (ps : List Str) {A ρ : Type} [ToD ρ] (enc : A → List D) (mir : A → M ρ) : Prop :=
  ∃ fd, FnOk P w K mg base (L2.CX P w) k f fd ps (spM K B enc mir) ∧ Binds K fd ps [] ∧ PySem.W.keepIn K (.ref f) = true
section
variable {X : Cx} {B : Box} {σ : L2.St} {F : Hp} {e a b : Expr} {pos p : Pos} {ρ : Type} [ToD ρ] {A : Type} {enc : A → List D} {es : List Expr} {mr : M A} {mir : A → M ρ} {x : Str}
theorem ev_callO {k : Nat} {f : Addr} {ps : List Str} (o : Ok X.prog X.w X.K X.mg X.base B k f ps enc mir) (hr : Room k X.A) (hg : Gl X x) (hm : X.mg x = some (.ref f)) (ha : EvA X B enc (e :: es) σ F mr)
    (hdb : (x == ("__debug__" : Str)) = false := by decide) (he : starEach (e :: es) X.env = (false, eval e X.env) :: starEach es X.env := by rfl)
    (hpl : (backTo pos (starEach es X.env)).any (·.1) = false := by rfl) : Ev X B (.Call (.Name x p) (e :: es) [] pos) σ F (M.bind mr mir) := by
  obtain ⟨fd, Fn, hb, hk⟩ := o
  exact ev_call Fn hr hb hg hm hk ha hdb he hpl
end
/-- is the datum a whole number -/
def isIntD : D → Bool
  | .int _ => true
  | _ => false
def isNumD : D → Bool
  | .int _ => true
  | .rat _ => true
  | _ => false
/-- as_ratio -/
def asQ (kn : Str → Bool) : D → M Rat
  | .int i => M.pure (i : Rat)
  | .rat q => M.pure q
  | d => M.ask (okD kn d = true) (M.throw ⟨"BadNumber", [("given", d)]⟩)
abbrev encD : D × Unit → List D := fun p => [p.1]
section
variable {P : Program} {w : World} {K : PySem.W.Frag} {mg : Str → Option Value} {base h : Heap} {B : Box} {kn : Str → Bool}
theorem ok_ByZero (T : TF K mg h) {X : Cx} (eK : X.K = K) (em : X.mg = mg) : ErrOk X "ByZero" (spE0 X.K) := by
  subst eK em
  obtain ⟨fd, Fd⟩ := T.f_ByZero___init__
  exact ⟨T.e_ByZero, T.g_ByZero, fd, ["self"], ok_e0 Fd sc_ByZero___init__ rfl rfl T.kb T.g_KindsError (fun env => ⟨_, rfl⟩), Fd.bindsN fun _ _ _ _ _ _ us hl => match us, hl with | [_], _ => rfl⟩
theorem ok_BadNumber (T : TF K mg h) {X : Cx} (eK : X.K = K) (em : X.mg = mg) : ErrOk X "BadNumber" (spE1 X.K "given") := by
  subst eK em
  obtain ⟨fd, Fd⟩ := T.f_BadNumber___init__
  exact ⟨T.e_BadNumber, T.g_BadNumber, fd, ["self", "given"], ok_e1 Fd sc_BadNumber___init__ rfl rfl rfl T.kb T.g_KindsError (fun env => ⟨_, rfl⟩), Fd.bindsN fun _ _ _ _ _ _ us hl => match us, hl with | [_, _], _ => rfl⟩
theorem is_integer_raw (d : D) (N : Nat) (Q : Bool → Nat → Prop) (E : Err → Nat → Prop) (h : (M.ask (okD kn d = true) (M.pure (isIntD d))) N Q E) :
    (M.bind (isiT kn "int" d) fun x => cond x (M.bind (isiT kn "bool" d) fun x => M.pure (!x)) (M.pure false)) N Q E := by
  obtain ⟨h1, h2⟩ := h
  cases d with
  | scr _ => cases (show false = true from h1)
  | box => cases (show false = true from h1)
  | ty _ => cases (show false = true from h1)
  | cl _ => cases (show false = true from h1)
  | rat q => exact ⟨h1, h2⟩
  | ins C ns vs => exact ⟨(okD_ins h1).1, h2⟩
  | _ => exact h2
theorem ok_is_integer (T : TF K mg h) (kk : Kn K kn) : Ok P w K mg base B 1 (He.ga K "is_integer") ["value"] encD (fun p => M.ask (okD kn p.1 = true) (M.pure (isIntD p.1))) := by
  obtain ⟨fd, Fd⟩ := T.f_is_integer
  refine ⟨fd, ?_, Fd.bindsN fun _ _ _ _ _ _ us hl => match us, hl with | [_], _ => rfl, Fd.kp⟩
  refine fn_mir Fd sc_is_integer (fun _ => rfl) ?_
  intro X ⟨d, _⟩ vs F H n Q E R Z cdv A outer s hX hr hi hm cf hp
  obtain ⟨v0, r0, rfl, i0, hi⟩ := hi
  have hr1 : r0 = [] := hi
  subst hr1 hX
  refine sx_ret cf (ev_imp (ev_and (ev_isiT (kn := kn) (T := "int") (by simp [tags]) kk (ev_var (i := 0) (v := v0) rfl (.inl rfl) rfl i0) rfl T.n_isinstance rfl T.n_int (by decide +kernel))
    (ev_one (ev_not (ev_isiT (kn := kn) (T := "bool") (by simp [tags]) kk (ev_var (i := 0) (v := v0) rfl (.inl rfl) rfl i0) rfl T.n_isinstance rfl T.n_bool (by decide +kernel))))) ?_) hm rfl
  exact fun N Q E hq => is_integer_raw d N Q E hq

/-! ### the greatest common divisor -/
def iabs (i : Int) : Int := if i < 0 then -i else i
theorem iabs_nat (i : Int) : iabs i = (i.natAbs : Int) := by unfold iabs; split <;> omega
def cdRaw : Nat → Int × Int → M Int := M.whileK (fun st : Int × Int => M.pure (!decide (st.2 = 0))) (fun st nxt => M.ask (st.2 ≠ 0) (nxt (st.2, st.1.fmod st.2))) (fun st => M.pure (iabs st.1))
theorem fmod_less {x y : Int} (h : y ≠ 0) : (x.fmod y).natAbs < y.natAbs := by
  by_cases hy : 0 < y
  · have h1 := Int.fmod_nonneg_of_pos x hy
    have h2 := Int.fmod_lt_of_pos x hy
    omega
  · have e : x.fmod y = -((-x).fmod (-y)) := by
      have := Int.neg_fmod_neg (-x) (-y)
      rw [Int.neg_neg, Int.neg_neg] at this
      exact this
    have h1 := Int.fmod_nonneg_of_pos (-x) (b := -y) (by omega)
    have h2 := Int.fmod_lt_of_pos (-x) (b := -y) (by omega)
    omega
theorem cd_raw : ∀ (n : Nat) (a b : Int), b.natAbs < n → ∀ (N : Nat) (Q : Int → Nat → Prop) (E : Err → Nat → Prop), Q (Int.gcd a b : Int) N → cdRaw n (a, b) N Q E := by
  intro n
  induction n with
  | zero => intro a b h; omega
  | succ n ih =>
    intro a b h N Q E q
    show (M.bind (M.pure (!decide (b = 0))) fun x => cond x (M.ask (b ≠ 0) (cdRaw n (b, a.fmod b))) (M.pure (iabs a))) N Q E
    by_cases hb : b = 0
    · subst hb
      rw [show decide ((0 : Int) = 0) = true from rfl]
      show Q (iabs a) N
      rw [iabs_nat]
      have : Int.gcd a 0 = a.natAbs := Int.gcd_zero_right a
      rw [this] at q
      exact q
    · have e : decide (b = 0) = false := decide_eq_false hb
      rw [e]
      refine ⟨hb, ih b (a.fmod b) (by have := fmod_less (x := a) hb; omega) N Q E ?_⟩
      have : Int.gcd b (a.fmod b) = Int.gcd a b := by
        rw [Int.fmod_def, Int.gcd_sub_mul_left_right, Int.gcd_comm]
      rw [this]
      exact q
theorem opk_abs {K : PySem.W.Frag} {B : Box} : CallM K B (fun p : Int × Unit => [toD p.1]) (fun xs H Q => ∃ i, xs = [.int i] ∧ Q (.int (if i < 0 then -i else i)) H) (fun p => M.pure (iabs p.1)) := fun x F H N Q E R Z vs e b i q c => by
  obtain ⟨v, r, rfl, h1, h2⟩ := i
  have h3 : r = [] := h2
  subst h3
  have h4 : v = .int x.1 := h1
  subst h4
  exact ⟨x.1, rfl, c.ok (iabs x.1) N _ F H q (Gd.refl e) b rfl⟩
abbrev encI2 : Int × Int × Unit → List D := fun p => [toD p.1, toD p.2.1]
theorem ok_common_divisor (T : TF K mg h) : Ok P w K mg base B 1 (He.ga K "common_divisor") ["one", "other"] encI2 (fun p => M.pure (Int.gcd p.1 p.2.1 : Int)) := by
  obtain ⟨fd, Fd⟩ := T.f_common_divisor
  refine ⟨fd, ?_, Fd.bindsN fun _ _ _ _ _ _ us hl => match us, hl with | [_, _], _ => rfl, Fd.kp⟩
  refine fn_mir Fd sc_common_divisor (fun _ => rfl) ?_
  intro X ⟨a, b, _⟩ vs F H n Q E R Z cdv A outer s hX hr hi hm cf hp
  obtain ⟨v0, r0, rfl, i0, hi⟩ := hi
  obtain ⟨v1, r1, rfl, i1, hi⟩ := hi
  have hr1 : r1 = [] := hi
  subst hr1 hX
  refine sx_while (S := Int × Int) (fun st σ F H => ∃ w0 w1, σ = [some w0, some w1] ∧ Is K B.at_ F (toD st.1) w0 ∧ Is K B.at_ F (toD st.2) w1) cf (cd_raw (b.natAbs + 1) a b (by omega) n Q E hm) ⟨v0, v1, rfl, i0, i1⟩ ?_ ?_ ?_ ?_ hp
  · rintro st σ F H ⟨w0, w1, rfl, i0, i1⟩
    exact et_neS (ev_var (i := 1) (v := w1) rfl (.inl rfl) rfl i1) ev_int
  · rintro st σ F H F1 H1 ⟨w0, w1, rfl, i0, i1⟩ g
    exact ⟨w0, w1, rfl, i0.mono g.f, i1.mono g.f⟩
  · rintro st σ F H N nxt D' ⟨w0, w1, rfl, i0, i1⟩ cf hm hD hn
    refine sx_par (i := 0) (j := 1) (k := fun x y => nxt (x, y)) cf (ev_var (x := st.2) (i := 1) (v := w1) rfl (.inl rfl) rfl i1) (ev_mod (ev_var (i := 0) (x := st.1) (v := w0) rfl (.inl rfl) rfl i0) (ev_var (i := 1) (x := st.2) (v := w1) rfl (.inl rfl) rfl i1)) hm ?_ rfl sc_common_divisor.nd rfl rfl (by decide) rfl rfl rfl
    intro x y N1 v u F1 H1 hm g cf i0 i1
    exact sx_nil (hn (x, y) _ F1 H1 N1 ⟨v, u, rfl, i0, i1⟩ cf hm)
  · rintro st σ F H N ⟨w0, w1, rfl, i0, i1⟩ cf hm
    exact sx_ret cf (ev_callB call_abs (by rfl) T.n_abs (by decide +kernel) (eva_cons (ev_var (i := 0) (v := w0) rfl (.inl rfl) rfl i0) eva_nil) opk_abs) hm rfl
/-! ### is_number, as_ratio -/
theorem is_number_raw (hq : kn "Ratio" = true) (d : D) (N : Nat) (Q : Bool → Nat → Prop) (E : Err → Nat → Prop) (h : (M.ask (okD kn d = true) (M.pure (isNumD d))) N Q E) :
    (M.bind (M.ask (okD kn d = true) (M.pure (isIntD d))) fun x => cond x (M.pure true) (isiC kn "Ratio" d)) N Q E := by
  obtain ⟨h1, h2⟩ := h
  refine ⟨h1, ?_⟩
  cases d with
  | scr _ => cases (show false = true from h1)
  | box => cases (show false = true from h1)
  | ty _ => cases (show false = true from h1)
  | cl _ => cases (show false = true from h1)
  | rat q => exact ⟨hq, h2⟩
  | ins C ns vs =>
    refine ⟨(okD_ins h1).1, ?_⟩
    rw [decide_eq_false (okD_ins h1).2]
    exact h2
  | _ => exact h2

theorem ok_is_number (T : TF K mg h) (kk : Kn K kn) (hq : kn "Ratio" = true) : Ok P w K mg base B 2 (He.ga K "is_number") ["value"] encD (fun p => M.ask (okD kn p.1 = true) (M.pure (isNumD p.1))) := by
  obtain ⟨fd, Fd⟩ := T.f_is_number
  refine ⟨fd, ?_, Fd.bindsN fun _ _ _ _ _ _ us hl => match us, hl with | [_], _ => rfl, Fd.kp⟩
  refine fn_mir Fd sc_is_number (fun _ => rfl) ?_
  intro X ⟨d, _⟩ vs F H n Q E R Z cdv A outer s hX hr hi hm cf hp
  obtain ⟨v0, r0, rfl, i0, hi⟩ := hi
  have hr1 : r0 = [] := hi
  subst hr1 hX
  exact sx_ret cf (ev_imp (ev_or (ev_callO (ok_is_integer T kk) hr rfl T.g_is_integer (eva_cons (ev_var (x := d) (i := 0) (v := v0) rfl (.inl rfl) rfl i0) eva_nil))
    (ev_one (ev_isiC (kn := kn) hq kk (ev_var (x := d) (i := 0) (v := v0) rfl (.inl rfl) rfl i0) rfl T.n_isinstance rfl T.g_Ratio))) (fun N Q E hq' => is_number_raw hq d N Q E hq')) hm rfl
/-! ### the class Ratio -/
theorem ratF_put (q : Rat) : putF "own_bottom" (.int (q.den : Int)) (putF "own_top" (.int q.num) []) = ratF q := by
  show (if ("own_top" : Str) = "own_bottom" then [(("own_top" : Str), V.int (q.den : Int))] else (("own_top" : Str), V.int q.num) :: putF "own_bottom" (V.int (q.den : Int)) []) = ratF q
  rw [if_neg (by decide +kernel)]
  rfl
theorem ok_Ratio_init (T : TF K mg h) : ∃ fd ds, FnOk P w K mg base (L2.CX P w) 3 (He.ma K (qC K) "__init__") fd ["self", "top", "bottom"] (spRI K B) ∧ Binds K fd ["self", "top", "bottom"] [] ∧ Vals [.int 1] ds ∧ Binds K fd ["self", "top", "bottom"] ds := by
  obtain ⟨fd, Fd⟩ := T.f_Ratio___init__
  obtain ⟨ds, vd, hb⟩ := Fd.binds1 (ps := ["self", "top", "bottom"]) 2 0 (by simp) rfl fun _ _ _ _ _ _ _ us its h1 h2 => match us, its, h1, h2 with | [_, _], [_], _, _ => ⟨_, rfl, rfl⟩
  obtain ⟨ds0, vd0, hb0⟩ := Fd.binds1 (ps := ["self", "top", "bottom"]) 3 1 (by simp) rfl fun _ _ _ _ _ _ _ us its h1 h2 => match us, its, h1, h2 with | [_, _, _], [_], _, _ => ⟨_, rfl, rfl⟩
  have e0 : ds0 = [] := by cases vd0; rfl
  subst e0
  refine ⟨fd, ds, ?_, hb0, vd, hb⟩
  refine Fd.ok sc_Ratio___init__ (fun vs H Q E hsp => ?_) (fun cdv A outer s H vs R Z hr hsp => ?_)
  · obtain ⟨F, N, p, dx, t, b, rfl, _⟩ := hsp
    rfl
  · obtain ⟨F, N, p, dx, t, b, rfl, eF, np, bx, nb, hp, k0, k1⟩ := hsp
    refine ⟨tSx _ _, tSx_pss _, ?_⟩
    have tk : Takes (cxOf (L2.CX P w) P w K mg base ["self", "top", "bottom", "divisor"] "Ratio.__init__" (defScope d_Ratio___init__) (He.ma K (qC K) "__init__") cdv A outer s H Z) (fun c d _ H => Z c d H) := takes_of rfl rfl rfl rfl
    by_cases hb0 : b = 0
    · subst hb0
      have cf : Cf (cxOf (L2.CX P w) P w K mg base ["self", "top", "bottom", "divisor"] "Ratio.__init__" (defScope d_Ratio___init__) (He.ma K (qC K) "__init__") cdv A outer s H Z) B F H N (fun (_ : Unit) _ => False) (fun er N' => er = ⟨"ByZero", []⟩ ∧ N' = N) (fun _ _ => True) Z :=
        ⟨tk, eF, bx, ⟨fun x N v F2 H2 q => q.elim, fun er N' cls d F2 H2 q g b2 ie => by
          obtain ⟨e1, e2⟩ := q
          subst e1 e2
          exact k0 rfl cls d F2 H2 g b2 ie⟩⟩
      refine sx_if (ka := M.throw ⟨"ByZero", []⟩) (kb := (M.bad : M Unit)) cf (et_eqS (ev_var (x := (0 : Int)) (i := 2) (v := .int 0) rfl (.inl rfl) rfl rfl) ev_int) (And.intro rfl rfl) (fun N1 F1 H1 hm g cf => ?_) (fun N1 F1 H1 hm g cf => hm.elim)
      exact sx_raise0 cf (ok_ByZero T rfl rfl) hr hm rfl rfl
    · obtain ⟨sz, k1⟩ := k1 hb0
      -- the two stores
      have fin : ∀ (F4 H4 : Hp), Gd B.at_ F H F4 H4 → Bx B F4 H4 N → Sx (cxOf (L2.CX P w) P w K mg base ["self", "top", "bottom", "divisor"] "Ratio.__init__" (defScope d_Ratio___init__) (He.ma K (qC K) "__init__") cdv A outer s H Z) ((defBody d_Ratio___init__).drop 3)
          [some (.ref p), some (.int t), some (.int b), some (.int (rdiv t b))] H4 { nx := fun _ H' => R .non H', rt := R } := by
        intro F4 H4 g4 b4
        have hp4 : H4 p = some (.ins (qC K) dx []) := g4.h p _ nb hp
        have rc : CFd t (rdiv t b) := ⟨rdiv_ne hb0, by rw [rdiv_abs]; exact sz⟩
        have rc2 : CFd b (rdiv t b) := ⟨rdiv_ne hb0, by rw [rdiv_abs]; exact sz⟩
        refine sx_ps (ps_fld (pe_var (i := 0) rfl (.inl rfl)) (pe_op op_fd (pe_var (i := 1) rfl (.inl rfl)) (pe_var (i := 3) rfl (.inl rfl))) rfl) ?_
        refine ⟨_, rfl, _, rfl, t, rdiv t b, rfl, rfl, rc, _, rfl, p, qC K, dx, [], rfl, hp4, T.q_cl, T.q_own_top, by decide, ?_⟩
        refine sx_ps (ps_fld (pe_var (i := 0) rfl (.inl rfl)) (pe_op op_fd (pe_var (i := 2) rfl (.inl rfl)) (pe_var (i := 3) rfl (.inl rfl))) rfl) ?_
        refine ⟨_, rfl, _, rfl, b, rdiv t b, rfl, rfl, rc2, _, rfl, p, qC K, dx, _, rfl, upd_same, T.q_cl, T.q_own_bottom, by show 1 < 1000; decide, ?_⟩
        refine sx_nil ?_
        show R .non (upd (upd H4 p (.ins (qC K) dx (putF "own_top" (.int (t.fdiv (rdiv t b))) []))) p (.ins (qC K) dx (putF "own_bottom" (.int (b.fdiv (rdiv t b))) (putF "own_top" (.int (t.fdiv (rdiv t b))) []))))
        rw [upd_upd, rdiv_num hb0, rdiv_den hb0, ratF_put]
        exact k1 F4 H4 g4 b4
      have cf : Cf (cxOf (L2.CX P w) P w K mg base ["self", "top", "bottom", "divisor"] "Ratio.__init__" (defScope d_Ratio___init__) (He.ma K (qC K) "__init__") cdv A outer s H Z) B F H N (fun (z : Int) N' => N' = N ∧ z = (Int.gcd t b : Int)) (fun _ _ => False) (fun _ _ => True) Z :=
        ⟨tk, eF, bx, ⟨fun x N v F2 H2 q _ _ _ => trivial, fun er N' cls d F2 H2 q => q.elim⟩⟩
      refine sx_if (ka := M.bad) (kb := M.pure (Int.gcd t b : Int)) cf (et_eqS (ev_var (x := b) (i := 2) (v := .int b) rfl (.inl rfl) rfl rfl) ev_int)
        (by show (cond (decide (b = 0)) M.bad (M.pure (Int.gcd t b : Int))) N (fun (z : Int) N' => N' = N ∧ z = (Int.gcd t b : Int)) (fun _ _ => False); rw [show decide (b = 0) = false from decide_eq_false hb0]; exact ⟨rfl, rfl⟩) (fun N1 F1 H1 hm g cf => hm.elim) (fun N1 F1 H1 hm g cf => sx_nil ?_)
      have e1 : N1 = N := hm.1
      subst e1
      refine sx_asg (i := 3) (k := fun z => M.pure z) cf (ev_callO (ok_common_divisor T) (hr.mono (by decide)) rfl T.g_common_divisor (eva_cons (ev_var (x := t) (i := 1) (v := .int t) rfl (.inl rfl) rfl rfl) (eva_cons (ev_var (x := b) (i := 2) (v := .int b) rfl (.inl rfl) rfl rfl) eva_nil)))
        (And.intro rfl rfl) (fun x N2 v F2 H2 hm g2 cf i => ?_) sc_Ratio___init__.nd rfl (.inl rfl)
      obtain ⟨e2, e3⟩ : N2 = N1 ∧ x = (Int.gcd t b : Int) := hm
      have e4 : v = .int x := i
      subst e2 e4 e3
      refine sx_if (ka := cond (decide (b < 0)) (M.pure (Int.gcd t b : Int)) M.bad) (kb := cond (decide (b < 0)) M.bad (M.pure (Int.gcd t b : Int))) cf (et_lt (ev_var (x := b) (i := 2) (v := .int b) rfl (.inl rfl) rfl rfl) ev_int)
        (by show (cond (decide (b < 0)) (cond (decide (b < 0)) (M.pure (Int.gcd t b : Int)) M.bad) (cond (decide (b < 0)) M.bad (M.pure (Int.gcd t b : Int)))) N2 (fun (z : Int) N' => N' = N2 ∧ z = (Int.gcd t b : Int)) (fun _ _ => False); cases decide (b < 0) <;> exact ⟨rfl, rfl⟩) (fun N3 F3 H3 hm g3 cf => ?_) (fun N3 F3 H3 hm g3 cf => sx_nil ?_)
      · cases hd : decide (b < 0) with
        | false => rw [hd] at hm; exact hm.elim
        | true =>
          rw [hd] at hm
          have e5 : N3 = N2 := hm.1
          subst e5
          refine sx_asg (i := 3) (k := fun z => M.pure (-z)) cf (ev_neg (ev_var (x := (Int.gcd t b : Int)) (i := 3) (v := .int (Int.gcd t b : Int)) rfl (.inl rfl) rfl rfl)) (And.intro rfl (Int.neg_neg _)) (fun x N4 v F4 H4 hm g4 cf i => sx_nil ?_) sc_Ratio___init__.nd rfl (.inl rfl)
          obtain ⟨e6, e7⟩ : N4 = N3 ∧ -x = (Int.gcd t b : Int) := hm
          have e8 : v = .int x := i
          have e9 : x = rdiv t b := by
            unfold rdiv
            rw [if_pos (of_decide_eq_true hd)]
            omega
          subst e6 e8 e9
          exact fin F4 H4 (g.trans (g2.trans (g3.trans g4))) cf.b
      · cases hd : decide (b < 0) with
        | true => rw [hd] at hm; exact hm.elim
        | false =>
          rw [hd] at hm
          have e5 : N3 = N2 := hm.1
          subst e5
          have e9 : (Int.gcd t b : Int) = rdiv t b := by
            unfold rdiv
            rw [if_neg (of_decide_eq_false hd)]
          have f := fin F3 H3 (g.trans (g2.trans g3)) cf.b
          rw [← e9] at f
          exact f
end
end L3

set_option Elab.async false
set_option linter.all false
set_option maxRecDepth 100000
set_option maxHeartbeats 4000000
/-! The methods of Ratio. -/
namespace L3
open PySem PySem.Spec PyProof.Rows L2 ToD
/-! ### sizes -/
def Bq (n : Nat) (q : Rat) : Prop := q.num.natAbs < 2 ^ n ∧ q.den < 2 ^ n
def Sz (q : Rat) : Prop := Bq 4000 q
theorem Bq.mono {n m : Nat} {q : Rat} (h : Bq n q) (l : n ≤ m) : Bq m q := ⟨Nat.lt_of_lt_of_le h.1 (Nat.pow_le_pow_right (by decide) l), Nat.lt_of_lt_of_le h.2 (Nat.pow_le_pow_right (by decide) l)⟩
theorem cmulw {i j : Int} (hi : i.natAbs < 2 ^ 4000) (hj : j.natAbs < 2 ^ 4000) : CMulW i j := wide_mul hi hj (by decide) (by decide) (by decide)
theorem natabs_den (q : Rat) : (q.den : Int).natAbs = q.den := rfl
theorem szq_den {t : Int} {a b : Nat} (ha0 : 0 < a) (hb0 : 0 < b) (ha : a < 2 ^ 4000) (hb : b < 2 ^ 4000) : SzQ t ((a : Int) * (b : Int)) := by
  unfold SzQ
  have e : ((a : Int) * (b : Int)) = ((a * b : Nat) : Int) := by simp
  rw [e]
  have h0 : 0 < a * b := Nat.mul_pos ha0 hb0
  have h1 : Int.gcd t ((a * b : Nat) : Int) ≤ a * b := Nat.le_of_dvd h0 (by
    have := Int.gcd_dvd_natAbs_right t ((a * b : Nat) : Int)
    exact this)
  have h2 : a * b < 2 ^ 8000 := by
    have : a * b < 2 ^ 4000 * 2 ^ 4000 := Nat.mul_lt_mul_of_lt_of_le ha (Nat.le_of_lt hb) (Nat.two_pow_pos 4000)
    rw [← Nat.pow_add] at this
    exact this
  by_cases hz : Int.gcd t ((a * b : Nat) : Int) = 0
  · rw [hz]; decide
  · refine (Nat.log2_lt hz).mpr (Nat.lt_of_le_of_lt h1 (Nat.lt_trans h2 ?_))
    exact Nat.pow_lt_pow_right (by decide) (by decide)
theorem szq_any {t b : Int} (h : b.natAbs < 2 ^ 8999) (hb : b ≠ 0) : SzQ t b := by
  unfold SzQ
  have h1 : Int.gcd t b ≤ b.natAbs := Nat.le_of_dvd (by omega) (Int.gcd_dvd_natAbs_right t b)
  by_cases hz : Int.gcd t b = 0
  · rw [hz]; decide
  · exact (Nat.log2_lt hz).mpr (Nat.lt_of_le_of_lt h1 (Nat.lt_trans h (Nat.pow_lt_pow_right (by decide) (by decide))))
theorem mkQ_ne {t b : Int} {N : Nat} {Q : Rat → Nat → Prop} {E : Err → Nat → Prop} (hb : b ≠ 0) (hz : SzQ t b) (h : Q (Rat.divInt t b) N) : mkQ t b N Q E := by
  unfold mkQ
  rw [decide_eq_false hb]
  exact ⟨hz, h⟩
theorem mkQ_zero {t : Int} {N : Nat} {Q : Rat → Nat → Prop} {E : Err → Nat → Prop} (h : E ⟨"ByZero", []⟩ N) : mkQ t 0 N Q E := h
/-! ### the mirrors -/
section
variable (kn : Str → Bool)
def qAdd (p : Rat × D × Unit) : M Rat := M.bind (asQ kn p.2.1) fun o => M.ask (Sz p.1 ∧ Sz o) (M.pure (p.1 + o))
def qSub (p : Rat × D × Unit) : M Rat := M.bind (asQ kn p.2.1) fun o => M.ask (Sz p.1 ∧ Sz o) (M.pure (p.1 - o))
def qMul (p : Rat × D × Unit) : M Rat := M.bind (asQ kn p.2.1) fun o => M.ask (Sz p.1 ∧ Sz o) (M.pure (p.1 * o))
def qLt (p : Rat × D × Unit) : M Bool := M.bind (asQ kn p.2.1) fun o => M.ask (Sz p.1 ∧ Sz o) (M.pure (decide (p.1 < o)))
def qLe (p : Rat × D × Unit) : M Bool := M.bind (asQ kn p.2.1) fun o => M.ask (Sz p.1 ∧ Sz o) (M.pure (decide (p.1 ≤ o)))
def qOver (p : Rat × D × Unit) : M Rat := M.bind (asQ kn p.2.1) fun o => M.ask (Sz p.1 ∧ Sz o) (cond (decide (o = 0)) (M.throw ⟨"ByZero", []⟩) (M.pure (p.1 / o)))
def qNeg (p : Rat × Unit) : M Rat := M.ask (Sz p.1) (M.pure (-p.1))
def eqD (q : Rat) : D → Bool
  | .int i => decide (q = (i : Rat))
  | .rat r => decide (q = r)
  | _ => false
def qEq (p : Rat × D × Unit) : M Bool := M.ask (okD kn p.2.1 = true) (M.pure (eqD p.1 p.2.1))
end
theorem rlt_iff (p o : Rat) : decide (p.num * (o.den : Int) < o.num * (p.den : Int)) = decide (p < o) := by
  rw [decide_eq_decide]
  exact (Rat.lt_iff p o).symm
theorem rle_iff (p o : Rat) : decide (p.num * (o.den : Int) ≤ o.num * (p.den : Int)) = decide (p ≤ o) := by
  rw [decide_eq_decide]
  exact (Rat.le_iff p o).symm
section
variable {P : Program} {w : World} {K : PySem.W.Frag} {mg : Str → Option Value} {base h : Heap} {B : Box} {kn : Str → Bool}
theorem ratC (T : TF K mg h) : RatC P w K mg base B 3 := ⟨T.g_Ratio, T.q_cl, T.q_own_top, T.q_own_bottom, T.q_mkr, ok_Ratio_init T⟩
theorem propTop (T : TF K mg h) : PropC P w K mg base "top" "own_top" := by
  refine ⟨T.q_cl, T.q_p_top, ?_⟩
  obtain ⟨fd, Fd⟩ := T.f_Ratio_top
  refine ⟨fd, ?_, Fd.bindsN fun _ _ _ _ _ _ us hl => match us, hl with | [_], _ => rfl⟩
  refine Fd.ok sc_Ratio_top (fun vs H Q E h => ?_) (fun cdv A outer s H vs Q E hr h => ?_)
  · obtain ⟨a, dx, fs, v, rfl, _⟩ := h
    rfl
  · obtain ⟨a, dx, fs, v, rfl, ea, l, q⟩ := h
    exact ⟨_, pss_one (ps_ret (pe_fld (pe_var (i := 0) rfl (.inl rfl)) rfl)), .ref a, rfl, a, qC K, dx, fs, v, rfl, ea, T.q_cl, T.q_own_top, l, q⟩
theorem propBot (T : TF K mg h) : PropC P w K mg base "bottom" "own_bottom" := by
  refine ⟨T.q_cl, T.q_p_bottom, ?_⟩
  obtain ⟨fd, Fd⟩ := T.f_Ratio_bottom
  refine ⟨fd, ?_, Fd.bindsN fun _ _ _ _ _ _ us hl => match us, hl with | [_], _ => rfl⟩
  refine Fd.ok sc_Ratio_bottom (fun vs H Q E h => ?_) (fun cdv A outer s H vs Q E hr h => ?_)
  · obtain ⟨a, dx, fs, v, rfl, _⟩ := h
    rfl
  · obtain ⟨a, dx, fs, v, rfl, ea, l, q⟩ := h
    exact ⟨_, pss_one (ps_ret (pe_fld (pe_var (i := 0) rfl (.inl rfl)) rfl)), .ref a, rfl, a, qC K, dx, fs, v, rfl, ea, T.q_cl, T.q_own_bottom, l, q⟩
section
variable {X : Cx} {σ : L2.St} {F : Hp} {a : Expr} {m : M Rat} {pos : Pos}
theorem ev_top (T : TF X.K X.mg h) (hr : Room 2 X.A) (ha : Ev X B a σ F m) (hab : attributeBase a "top" X.env (eval a X.env) = eval a X.env := by rfl) : Ev X B (.Attribute a "top" pos) σ F (M.bind m fun q => M.pure q.num) :=
  ev_qprop (g := fun q => q.num) (propTop T) ratF_top hr ha hab
theorem ev_bot (T : TF X.K X.mg h) (hr : Room 2 X.A) (ha : Ev X B a σ F m) (hab : attributeBase a "bottom" X.env (eval a X.env) = eval a X.env := by rfl) : Ev X B (.Attribute a "bottom" pos) σ F (M.bind m fun q => M.pure (q.den : Int)) :=
  ev_qprop (g := fun q => (q.den : Int)) (propBot T) ratF_bot hr ha hab
end
def asQ2 : D → M Rat
  | .int i => M.pure (i : Rat)
  | .rat q => M.pure q
  | _ => M.bad
theorem ev_bad {X : Cx} {B : Box} {α : Type} [ToD α] {e : Expr} {σ : L2.St} {F : Hp} : Ev X B e σ F (M.bad : M α) := ⟨fun _ _ _ _ _ _ _ _ _ _ _ _ _ _ hm _ => hm.elim⟩
theorem as_ratio_raw (hq : kn "Ratio" = true) (d : D) (N : Nat) (Q : Rat → Nat → Prop) (E : Err → Nat → Prop) (h : asQ kn d N Q E) :
    (M.bind (M.bind (M.ask (okD kn d = true) (M.pure (isNumD d))) fun x => M.pure (!x)) fun x => cond x (M.throw ⟨"BadNumber", [("given", d)]⟩ : M Rat) (asQ2 d)) N Q E := by
  cases d with
  | int i => exact ⟨rfl, h⟩
  | rat q => exact ⟨hq, h⟩
  | _ => exact ⟨h.1, h.2⟩
theorem fn_as_ratio (T : TF K mg h) (kk : Kn K kn) (hq : kn "Ratio" = true) {fd : FuncData} (Fd : FunD K "as_ratio" "as_ratio" (defArgs d_as_ratio) (defBody d_as_ratio) (defScope d_as_ratio) [] [] ((atG "as_ratio") K) fd) : FnOk P w K mg base (L2.CX P w) 5 (He.ga K "as_ratio") fd ["given"] (spM K B encD (fun p => asQ kn p.1)) := by
  refine fn_mir Fd sc_as_ratio (fun _ => rfl) ?_
  intro X ⟨d, _⟩ vs F H n Q E R Z cdv A outer s hX hr hi hm cf hp
  obtain ⟨v0, r0, rfl, i0, hi⟩ := hi
  have hr1 : r0 = [] := hi
  subst hr1 hX
  refine sx_if cf (et_not (et_val (ev_callO (ok_is_number T kk hq) (hr.mono (by decide)) rfl T.g_is_number (eva_cons (ev_var (x := d) (i := 0) (v := v0) rfl (.inl rfl) rfl i0) eva_nil)))) (as_ratio_raw hq d n Q E hm)
    (fun N1 F1 H1 hm g cf => ?_) (fun N1 F1 H1 hm g cf => sx_nil ?_)
  · exact sx_raise1 cf (ok_BadNumber T rfl rfl) T.na_BadNumber_given (hr.mono (by decide)) (ev_var (x := d) (i := 0) (v := v0) rfl (.inl rfl) rfl (i0.mono g.f)) hm rfl rfl
  · have i1 := i0.mono g.f
    cases d with
    | int i => exact sx_ret (ρ := Rat) cf (ev_if (et_val (ev_isiC (kn := kn) hq kk (ev_var (x := D.int i) (i := 0) (v := v0) rfl (.inl rfl) rfl i1) rfl T.n_isinstance rfl T.g_Ratio)) ev_bad
        (ev_ratio1 (ratC T) (hr.mono (by decide)) (ev_var (x := i) (i := 0) (v := v0) rfl (.inl rfl) rfl i1))) hm rfl
    | rat q =>
      refine sx_ret (ρ := Rat) cf (ev_if (et_val (ev_isiC (kn := kn) hq kk (ev_var (x := D.rat q) (i := 0) (v := v0) rfl (.inl rfl) rfl i1) rfl T.n_isinstance rfl T.g_Ratio)) (ev_var (x := q) (i := 0) (v := v0) rfl (.inl rfl) rfl i1) ev_bad) ?_ rfl
      refine ⟨hq, ?_⟩
      exact hm
    | _ => exact hm.elim
theorem ok_as_ratio (T : TF K mg h) (kk : Kn K kn) (hq : kn "Ratio" = true) : Ok P w K mg base B 5 (He.ga K "as_ratio") ["given"] encD (fun p => asQ kn p.1) := by
  obtain ⟨fd, Fd⟩ := T.f_as_ratio
  exact ⟨fd, fn_as_ratio T kk hq Fd, Fd.bindsN fun _ _ _ _ _ _ us hl => match us, hl with | [_], _ => rfl, Fd.kp⟩
theorem okk_as_ratio (T : TF K mg h) (kk : Kn K kn) (hq : kn "Ratio" = true) : OkK P w K mg base B 5 (He.ga K "as_ratio") ["given"] ["given"] encD (fun p => asQ kn p.1) := by
  obtain ⟨fd, Fd⟩ := T.f_as_ratio
  refine ⟨fd, fn_as_ratio T kk hq Fd, ?_, Fd.kp⟩
  obtain ⟨oc, od, dV, kV, doc, pm, an, cdv, ct, osl, rfl, lk, hcd, hD, hK⟩ := Fd.ex
  rcases hD with ⟨_, rfl⟩ | ⟨e, _⟩
  · exact fun s us hl => match us, hl with | [_], _ => .of_eq rfl
  · exact absurd rfl e
end
end L3

set_option Elab.async false
set_option linter.all false
set_option maxRecDepth 100000
set_option maxHeartbeats 4000000
/-! The methods of Ratio that take a number. -/
namespace L3
open PySem PySem.Spec PyProof.Rows L2 ToD
section
variable {P : Program} {w : World} {K : PySem.W.Frag} {mg : Str → Option Value} {base h : Heap} {B : Box} {kn : Str → Bool}
theorem ok_q_add (T : TF K mg h) (kk : Kn K kn) (hq : kn "Ratio" = true) : MetC P w K mg base B "__add__" 6 ["self", "number"] enc2 (qAdd kn) := by
  obtain ⟨fd, Fd⟩ := T.f_Ratio___add__
  obtain ⟨m1, m2, m3⟩ := T.q_m___add__
  refine ⟨m1, m2, m3, fd, ?_, Fd.bindsN fun _ _ _ _ _ _ us hl => match us, hl with | [_, _], _ => rfl⟩
  refine fn_mir Fd sc_Ratio___add__ (fun _ => rfl) ?_
  intro X ⟨q, d, _⟩ vs F H n Q E R Z cdv A outer s hX hr hi hm cf hp
  obtain ⟨v0, r0, rfl, i0, hi⟩ := hi
  obtain ⟨v1, r1, rfl, i1, hi⟩ := hi
  have hr1 : r1 = [] := hi
  subst hr1 hX
  refine sx_asg (i := 2) cf (ev_callO (ok_as_ratio T kk hq) hr rfl T.g_as_ratio (eva_cons (ev_var (x := d) (i := 1) (v := v1) rfl (.inl rfl) rfl i1) eva_nil)) hm (fun o N1 v2 F1 H1 hm g cf i2 => ?_) sc_Ratio___add__.nd rfl (.inl rfl)
  refine sx_ret cf (ev_ratio2 (ratC T) (hr.mono (by decide)) (ev_add (ev_mul (ev_top T (hr.mono (by decide)) (ev_var (x := q) (i := 0) (v := v0) rfl (.inl rfl) rfl (i0.mono g.f))) (ev_bot T (hr.mono (by decide)) (ev_var (x := o) (i := 2) (v := v2) rfl (.inl rfl) rfl i2))) (ev_mul (ev_top T (hr.mono (by decide)) (ev_var (x := o) (i := 2) (v := v2) rfl (.inl rfl) rfl i2)) (ev_bot T (hr.mono (by decide)) (ev_var (x := q) (i := 0) (v := v0) rfl (.inl rfl) rfl (i0.mono g.f))))) (ev_mul (ev_bot T (hr.mono (by decide)) (ev_var (x := q) (i := 0) (v := v0) rfl (.inl rfl) rfl (i0.mono g.f))) (ev_bot T (hr.mono (by decide)) (ev_var (x := o) (i := 2) (v := v2) rfl (.inl rfl) rfl i2)))) ?_ rfl
  obtain ⟨⟨s1, s2⟩, hm⟩ := hm
  exact ⟨cmulw s1.1 s2.2, cmulw s2.1 s1.2, cmulw s1.2 s2.2, mkQ_ne (Int.mul_ne_zero (q_den0 q) (q_den0 o)) (szq_den q.den_pos o.den_pos s1.2 s2.2) (by rw [q_add]; exact hm)⟩
theorem ok_q_sub (T : TF K mg h) (kk : Kn K kn) (hq : kn "Ratio" = true) : MetC P w K mg base B "__sub__" 6 ["self", "number"] enc2 (qSub kn) := by
  obtain ⟨fd, Fd⟩ := T.f_Ratio___sub__
  obtain ⟨m1, m2, m3⟩ := T.q_m___sub__
  refine ⟨m1, m2, m3, fd, ?_, Fd.bindsN fun _ _ _ _ _ _ us hl => match us, hl with | [_, _], _ => rfl⟩
  refine fn_mir Fd sc_Ratio___sub__ (fun _ => rfl) ?_
  intro X ⟨q, d, _⟩ vs F H n Q E R Z cdv A outer s hX hr hi hm cf hp
  obtain ⟨v0, r0, rfl, i0, hi⟩ := hi
  obtain ⟨v1, r1, rfl, i1, hi⟩ := hi
  have hr1 : r1 = [] := hi
  subst hr1 hX
  refine sx_asg (i := 2) cf (ev_callO (ok_as_ratio T kk hq) hr rfl T.g_as_ratio (eva_cons (ev_var (x := d) (i := 1) (v := v1) rfl (.inl rfl) rfl i1) eva_nil)) hm (fun o N1 v2 F1 H1 hm g cf i2 => ?_) sc_Ratio___sub__.nd rfl (.inl rfl)
  refine sx_ret cf (ev_ratio2 (ratC T) (hr.mono (by decide)) (ev_sub (ev_mul (ev_top T (hr.mono (by decide)) (ev_var (x := q) (i := 0) (v := v0) rfl (.inl rfl) rfl (i0.mono g.f))) (ev_bot T (hr.mono (by decide)) (ev_var (x := o) (i := 2) (v := v2) rfl (.inl rfl) rfl i2))) (ev_mul (ev_top T (hr.mono (by decide)) (ev_var (x := o) (i := 2) (v := v2) rfl (.inl rfl) rfl i2)) (ev_bot T (hr.mono (by decide)) (ev_var (x := q) (i := 0) (v := v0) rfl (.inl rfl) rfl (i0.mono g.f))))) (ev_mul (ev_bot T (hr.mono (by decide)) (ev_var (x := q) (i := 0) (v := v0) rfl (.inl rfl) rfl (i0.mono g.f))) (ev_bot T (hr.mono (by decide)) (ev_var (x := o) (i := 2) (v := v2) rfl (.inl rfl) rfl i2)))) ?_ rfl
  obtain ⟨⟨s1, s2⟩, hm⟩ := hm
  exact ⟨cmulw s1.1 s2.2, cmulw s2.1 s1.2, cmulw s1.2 s2.2, mkQ_ne (Int.mul_ne_zero (q_den0 q) (q_den0 o)) (szq_den q.den_pos o.den_pos s1.2 s2.2) (by rw [q_sub]; exact hm)⟩
theorem ok_q_mul (T : TF K mg h) (kk : Kn K kn) (hq : kn "Ratio" = true) : MetC P w K mg base B "__mul__" 6 ["self", "number"] enc2 (qMul kn) := by
  obtain ⟨fd, Fd⟩ := T.f_Ratio___mul__
  obtain ⟨m1, m2, m3⟩ := T.q_m___mul__
  refine ⟨m1, m2, m3, fd, ?_, Fd.bindsN fun _ _ _ _ _ _ us hl => match us, hl with | [_, _], _ => rfl⟩
  refine fn_mir Fd sc_Ratio___mul__ (fun _ => rfl) ?_
  intro X ⟨q, d, _⟩ vs F H n Q E R Z cdv A outer s hX hr hi hm cf hp
  obtain ⟨v0, r0, rfl, i0, hi⟩ := hi
  obtain ⟨v1, r1, rfl, i1, hi⟩ := hi
  have hr1 : r1 = [] := hi
  subst hr1 hX
  refine sx_asg (i := 2) cf (ev_callO (ok_as_ratio T kk hq) hr rfl T.g_as_ratio (eva_cons (ev_var (x := d) (i := 1) (v := v1) rfl (.inl rfl) rfl i1) eva_nil)) hm (fun o N1 v2 F1 H1 hm g cf i2 => ?_) sc_Ratio___mul__.nd rfl (.inl rfl)
  refine sx_ret cf (ev_ratio2 (ratC T) (hr.mono (by decide)) (ev_mul (ev_top T (hr.mono (by decide)) (ev_var (x := q) (i := 0) (v := v0) rfl (.inl rfl) rfl (i0.mono g.f))) (ev_top T (hr.mono (by decide)) (ev_var (x := o) (i := 2) (v := v2) rfl (.inl rfl) rfl i2))) (ev_mul (ev_bot T (hr.mono (by decide)) (ev_var (x := q) (i := 0) (v := v0) rfl (.inl rfl) rfl (i0.mono g.f))) (ev_bot T (hr.mono (by decide)) (ev_var (x := o) (i := 2) (v := v2) rfl (.inl rfl) rfl i2)))) ?_ rfl
  obtain ⟨⟨s1, s2⟩, hm⟩ := hm
  exact ⟨cmulw s1.1 s2.1, cmulw s1.2 s2.2, mkQ_ne (Int.mul_ne_zero (q_den0 q) (q_den0 o)) (szq_den q.den_pos o.den_pos s1.2 s2.2) (by rw [q_mul]; exact hm)⟩
theorem ok_q_lt (T : TF K mg h) (kk : Kn K kn) (hq : kn "Ratio" = true) : MetC P w K mg base B "__lt__" 6 ["self", "number"] enc2 (qLt kn) := by
  obtain ⟨fd, Fd⟩ := T.f_Ratio___lt__
  obtain ⟨m1, m2, m3⟩ := T.q_m___lt__
  refine ⟨m1, m2, m3, fd, ?_, Fd.bindsN fun _ _ _ _ _ _ us hl => match us, hl with | [_, _], _ => rfl⟩
  refine fn_mir Fd sc_Ratio___lt__ (fun _ => rfl) ?_
  intro X ⟨q, d, _⟩ vs F H n Q E R Z cdv A outer s hX hr hi hm cf hp
  obtain ⟨v0, r0, rfl, i0, hi⟩ := hi
  obtain ⟨v1, r1, rfl, i1, hi⟩ := hi
  have hr1 : r1 = [] := hi
  subst hr1 hX
  refine sx_asg (i := 2) cf (ev_callO (ok_as_ratio T kk hq) hr rfl T.g_as_ratio (eva_cons (ev_var (x := d) (i := 1) (v := v1) rfl (.inl rfl) rfl i1) eva_nil)) hm (fun o N1 v2 F1 H1 hm g cf i2 => ?_) sc_Ratio___lt__.nd rfl (.inl rfl)
  refine sx_ret cf (ev_lt (ev_mul (ev_top T (hr.mono (by decide)) (ev_var (x := q) (i := 0) (v := v0) rfl (.inl rfl) rfl (i0.mono g.f))) (ev_bot T (hr.mono (by decide)) (ev_var (x := o) (i := 2) (v := v2) rfl (.inl rfl) rfl i2))) (ev_mul (ev_top T (hr.mono (by decide)) (ev_var (x := o) (i := 2) (v := v2) rfl (.inl rfl) rfl i2)) (ev_bot T (hr.mono (by decide)) (ev_var (x := q) (i := 0) (v := v0) rfl (.inl rfl) rfl (i0.mono g.f))))) ?_ rfl
  obtain ⟨⟨s1, s2⟩, hm⟩ := hm
  have hm : Q (decide (q < o)) N1 := hm
  rw [← rlt_iff] at hm
  exact ⟨cmulw s1.1 s2.2, cmulw s2.1 s1.2, hm⟩
theorem ok_q_le (T : TF K mg h) (kk : Kn K kn) (hq : kn "Ratio" = true) : MetC P w K mg base B "__le__" 6 ["self", "number"] enc2 (qLe kn) := by
  obtain ⟨fd, Fd⟩ := T.f_Ratio___le__
  obtain ⟨m1, m2, m3⟩ := T.q_m___le__
  refine ⟨m1, m2, m3, fd, ?_, Fd.bindsN fun _ _ _ _ _ _ us hl => match us, hl with | [_, _], _ => rfl⟩
  refine fn_mir Fd sc_Ratio___le__ (fun _ => rfl) ?_
  intro X ⟨q, d, _⟩ vs F H n Q E R Z cdv A outer s hX hr hi hm cf hp
  obtain ⟨v0, r0, rfl, i0, hi⟩ := hi
  obtain ⟨v1, r1, rfl, i1, hi⟩ := hi
  have hr1 : r1 = [] := hi
  subst hr1 hX
  refine sx_asg (i := 2) cf (ev_callO (ok_as_ratio T kk hq) hr rfl T.g_as_ratio (eva_cons (ev_var (x := d) (i := 1) (v := v1) rfl (.inl rfl) rfl i1) eva_nil)) hm (fun o N1 v2 F1 H1 hm g cf i2 => ?_) sc_Ratio___le__.nd rfl (.inl rfl)
  refine sx_ret cf (ev_le (ev_mul (ev_top T (hr.mono (by decide)) (ev_var (x := q) (i := 0) (v := v0) rfl (.inl rfl) rfl (i0.mono g.f))) (ev_bot T (hr.mono (by decide)) (ev_var (x := o) (i := 2) (v := v2) rfl (.inl rfl) rfl i2))) (ev_mul (ev_top T (hr.mono (by decide)) (ev_var (x := o) (i := 2) (v := v2) rfl (.inl rfl) rfl i2)) (ev_bot T (hr.mono (by decide)) (ev_var (x := q) (i := 0) (v := v0) rfl (.inl rfl) rfl (i0.mono g.f))))) ?_ rfl
  obtain ⟨⟨s1, s2⟩, hm⟩ := hm
  have hm : Q (decide (q ≤ o)) N1 := hm
  rw [← rle_iff] at hm
  exact ⟨cmulw s1.1 s2.2, cmulw s2.1 s1.2, hm⟩
theorem ok_q_over (T : TF K mg h) (kk : Kn K kn) (hq : kn "Ratio" = true) : MetC P w K mg base B "over" 6 ["self", "number"] enc2 (qOver kn) := by
  obtain ⟨fd, Fd⟩ := T.f_Ratio_over
  obtain ⟨m1, m2, m3⟩ := T.q_m_over
  refine ⟨m1, m2, m3, fd, ?_, Fd.bindsN fun _ _ _ _ _ _ us hl => match us, hl with | [_, _], _ => rfl⟩
  refine fn_mir Fd sc_Ratio_over (fun _ => rfl) ?_
  intro X ⟨q, d, _⟩ vs F H n Q E R Z cdv A outer s hX hr hi hm cf hp
  obtain ⟨v0, r0, rfl, i0, hi⟩ := hi
  obtain ⟨v1, r1, rfl, i1, hi⟩ := hi
  have hr1 : r1 = [] := hi
  subst hr1 hX
  refine sx_asg (i := 2) cf (ev_callO (ok_as_ratio T kk hq) hr rfl T.g_as_ratio (eva_cons (ev_var (x := d) (i := 1) (v := v1) rfl (.inl rfl) rfl i1) eva_nil)) hm (fun o N1 v2 F1 H1 hm g cf i2 => ?_) sc_Ratio_over.nd rfl (.inl rfl)
  refine sx_ret cf (ev_ratio2 (ratC T) (hr.mono (by decide)) (ev_mul (ev_top T (hr.mono (by decide)) (ev_var (x := q) (i := 0) (v := v0) rfl (.inl rfl) rfl (i0.mono g.f))) (ev_bot T (hr.mono (by decide)) (ev_var (x := o) (i := 2) (v := v2) rfl (.inl rfl) rfl i2))) (ev_mul (ev_bot T (hr.mono (by decide)) (ev_var (x := q) (i := 0) (v := v0) rfl (.inl rfl) rfl (i0.mono g.f))) (ev_top T (hr.mono (by decide)) (ev_var (x := o) (i := 2) (v := v2) rfl (.inl rfl) rfl i2)))) ?_ rfl
  obtain ⟨⟨s1, s2⟩, hm⟩ := hm
  refine ⟨cmulw s1.1 s2.2, cmulw s1.2 s2.1, ?_⟩
  by_cases hz : o = 0
  · rw [decide_eq_true hz] at hm
    subst hz
    show mkQ _ ((q.den : Int) * 0) N1 Q E
    rw [Int.mul_zero]
    exact mkQ_zero hm
  · rw [decide_eq_false hz] at hm
    have hz2 : (q.den : Int) * o.num ≠ 0 := Int.mul_ne_zero (q_den0 q) fun z => hz (Rat.num_eq_zero.mp z)
    refine mkQ_ne hz2 (szq_any ?_ hz2) (by rw [q_over]; exact hm)
    rw [Int.natAbs_mul]
    exact Nat.lt_trans (Nat.mul_lt_mul_of_lt_of_le s1.2 (Nat.le_of_lt s2.1) (Nat.two_pow_pos 4000)) (by rw [← Nat.pow_add]; exact Nat.pow_lt_pow_right (by decide) (by decide))
end
end L3

set_option Elab.async false
set_option linter.all false
set_option maxRecDepth 100000
set_option maxHeartbeats 4000000
/-! Ratio: opposite, equality; total. -/
namespace L3
open PySem PySem.Spec PyProof.Rows L2 ToD
theorem eq_int_iff (q : Rat) (i : Int) : (decide ((q.den : Int) = 1) && decide (q.num = i)) = decide (q = (i : Rat)) := by
  by_cases h : q = (i : Rat)
  · subst h
    have h1 : (i : Rat).den = 1 := rfl
    have h2 : (i : Rat).num = i := rfl
    rw [h1, h2]
    simp
  · rw [decide_eq_false h]
    cases e1 : decide ((q.den : Int) = 1) with
    | false => rfl
    | true =>
      cases e2 : decide (q.num = i) with
      | false => rfl
      | true =>
        have h1 := of_decide_eq_true e1
        have h2 := of_decide_eq_true e2
        exact absurd (Rat.ext (show q.num = (i : Rat).num from h2) (show q.den = (i : Rat).den from by show q.den = 1; omega)) h
section
variable {P : Program} {w : World} {K : PySem.W.Frag} {mg : Str → Option Value} {base h : Heap} {B : Box} {kn : Str → Bool}
theorem ok_q_neg (T : TF K mg h) : MetC P w K mg base B "__neg__" 5 ["self"] enc1 qNeg := by
  obtain ⟨fd, Fd⟩ := T.f_Ratio___neg__
  obtain ⟨m1, m2, m3⟩ := T.q_m___neg__
  refine ⟨m1, m2, m3, fd, ?_, Fd.bindsN fun _ _ _ _ _ _ us hl => match us, hl with | [_], _ => rfl⟩
  refine fn_mir Fd sc_Ratio___neg__ (fun _ => rfl) ?_
  intro X ⟨q, _⟩ vs F H n Q E R Z cdv A outer s hX hr hi hm cf hp
  obtain ⟨v0, r0, rfl, i0, hi⟩ := hi
  have hr1 : r0 = [] := hi
  subst hr1 hX
  refine sx_ret cf (ev_ratio2 (ratC T) (hr.mono (by decide)) (ev_neg (ev_top T (hr.mono (by decide)) (ev_var (x := q) (i := 0) (v := v0) rfl (.inl rfl) rfl i0))) (ev_bot T (hr.mono (by decide)) (ev_var (x := q) (i := 0) (v := v0) rfl (.inl rfl) rfl i0))) ?_ rfl
  obtain ⟨s1, hm⟩ := hm
  refine mkQ_ne (q_den0 q) (szq_any ?_ (q_den0 q)) (by rw [q_neg]; exact hm)
  exact Nat.lt_trans s1.2 (Nat.pow_lt_pow_right (by decide) (by decide))
theorem ok_q_eq (T : TF K mg h) (kk : Kn K kn) (hq : kn "Ratio" = true) : MetC P w K mg base B "__eq__" 3 ["self", "other"] enc2 (qEq kn) := by
  obtain ⟨fd, Fd⟩ := T.f_Ratio___eq__
  obtain ⟨m1, m2, m3⟩ := T.q_m___eq__
  refine ⟨m1, m2, m3, fd, ?_, Fd.bindsN fun _ _ _ _ _ _ us hl => match us, hl with | [_, _], _ => rfl⟩
  refine fn_mir Fd sc_Ratio___eq__ (fun _ => rfl) ?_
  intro X ⟨q, d, _⟩ vs F H n Q E R Z cdv A outer s hX hr hi hm cf hp
  obtain ⟨v0, r0, rfl, i0, hi⟩ := hi
  obtain ⟨v1, r1, rfl, i1, hi⟩ := hi
  have hr1 : r1 = [] := hi
  subst hr1 hX
  obtain ⟨okd, hm⟩ := hm
  refine sx_if (ka := cond (isIntD d) (M.pure (eqD q d)) M.bad) (kb := cond (isIntD d) M.bad (M.pure (eqD q d))) cf (et_val (ev_callO (ok_is_integer T kk) (hr.mono (by decide)) rfl T.g_is_integer (eva_cons (ev_var (x := d) (i := 1) (v := v1) rfl (.inl rfl) rfl i1) eva_nil)))
    ⟨okd, by show (cond (isIntD d) (cond (isIntD d) (M.pure (eqD q d)) M.bad) (cond (isIntD d) M.bad (M.pure (eqD q d))) : M Bool) n Q E; cases isIntD d <;> exact hm⟩ (fun N1 F1 H1 hm g cf => ?_) (fun N1 F1 H1 hm g cf => sx_nil ?_)
  · cases d with
    | int i =>
      have i1 := i1.mono g.f
      have i0 := i0.mono g.f
      refine sx_ret cf (ev_and (ev_eqS (ev_bot T (hr.mono (by decide)) (ev_var (x := q) (i := 0) (v := v0) rfl (.inl rfl) rfl i0)) ev_int) (ev_one (ev_eqS (ev_top T (hr.mono (by decide)) (ev_var (x := q) (i := 0) (v := v0) rfl (.inl rfl) rfl i0)) (ev_var (x := i) (i := 1) (v := v1) rfl (.inl rfl) rfl i1)))) ?_ rfl
      have hm : Q (decide (q = (i : Rat))) N1 := hm
      rw [← eq_int_iff] at hm
      show (cond (decide ((q.den : Int) = 1)) (M.pure (decide (q.num = i))) (M.pure false)) N1 Q E
      cases hd : decide ((q.den : Int) = 1) with
      | true => rw [hd] at hm; exact hm
      | false => rw [hd] at hm; exact hm
    | _ => exact hm.elim
  · have i1 := i1.mono g.f
    have i0 := i0.mono g.f
    cases d with
    | rat r =>
      refine sx_ret cf (ev_and (ev_isiC (kn := kn) hq kk (ev_var (x := D.rat r) (i := 1) (v := v1) rfl (.inl rfl) rfl i1) rfl T.n_isinstance rfl T.g_Ratio) (ev_and (ev_eqS (ev_top T (hr.mono (by decide)) (ev_var (x := q) (i := 0) (v := v0) rfl (.inl rfl) rfl i0)) (ev_top T (hr.mono (by decide)) (ev_var (x := r) (i := 1) (v := v1) rfl (.inl rfl) rfl i1))) (ev_one (ev_eqS (ev_bot T (hr.mono (by decide)) (ev_var (x := q) (i := 0) (v := v0) rfl (.inl rfl) rfl i0)) (ev_bot T (hr.mono (by decide)) (ev_var (x := r) (i := 1) (v := v1) rfl (.inl rfl) rfl i1)))))) ?_ rfl
      refine ⟨hq, ?_⟩
      show (cond (decide (q.num = r.num)) (M.pure (decide ((q.den : Int) = (r.den : Int)))) (M.pure false)) N1 Q E
      have hm : Q (decide (q = r)) N1 := hm
      rw [← q_eq] at hm
      cases hd : decide (q.num = r.num) with
      | true => rw [hd] at hm; exact hm
      | false => rw [hd] at hm; exact hm
    | int i => exact hm.elim
    | scr _ => cases okd
    | box => cases okd
    | ty _ => cases okd
    | cl _ => cases okd
    | ins C ns vs =>
      obtain ⟨k1, k2⟩ := okD_ins okd
      refine sx_ret cf (ev_and (ev_isiC (kn := kn) hq kk (ev_var (x := D.ins C ns vs) (i := 1) (v := v1) rfl (.inl rfl) rfl i1) rfl T.n_isinstance rfl T.g_Ratio) ev_bad) ?_ rfl
      refine ⟨k1, ?_⟩
      rw [decide_eq_false k2]
      exact hm
    | non => exact sx_ret cf (ev_and (ev_isiC (kn := kn) hq kk (ev_var (x := (D.non)) (i := 1) (v := v1) rfl (.inl rfl) rfl i1) rfl T.n_isinstance rfl T.g_Ratio) ev_bad) hm rfl
    | bool b => exact sx_ret cf (ev_and (ev_isiC (kn := kn) hq kk (ev_var (x := (D.bool b)) (i := 1) (v := v1) rfl (.inl rfl) rfl i1) rfl T.n_isinstance rfl T.g_Ratio) ev_bad) hm rfl
    | str z => exact sx_ret cf (ev_and (ev_isiC (kn := kn) hq kk (ev_var (x := (D.str z)) (i := 1) (v := v1) rfl (.inl rfl) rfl i1) rfl T.n_isinstance rfl T.g_Ratio) ev_bad) hm rfl
    | lst xs => exact sx_ret cf (ev_and (ev_isiC (kn := kn) hq kk (ev_var (x := (D.lst xs)) (i := 1) (v := v1) rfl (.inl rfl) rfl i1) rfl T.n_isinstance rfl T.g_Ratio) ev_bad) hm rfl
    | tup xs => exact sx_ret cf (ev_and (ev_isiC (kn := kn) hq kk (ev_var (x := (D.tup xs)) (i := 1) (v := v1) rfl (.inl rfl) rfl i1) rfl T.n_isinstance rfl T.g_Ratio) ev_bad) hm rfl
    | dK ks xs => exact sx_ret cf (ev_and (ev_isiC (kn := kn) hq kk (ev_var (x := (D.dK ks xs)) (i := 1) (v := v1) rfl (.inl rfl) rfl i1) rfl T.n_isinstance rfl T.g_Ratio) ev_bad) hm rfl
    | dT ks xs => exact sx_ret cf (ev_and (ev_isiC (kn := kn) hq kk (ev_var (x := (D.dT ks xs)) (i := 1) (v := v1) rfl (.inl rfl) rfl i1) rfl T.n_isinstance rfl T.g_Ratio) ev_bad) hm rfl
end
end L3

set_option Elab.async false
set_option linter.all false
set_option maxRecDepth 100000
set_option maxHeartbeats 4000000
/-! The law's box: opened, drawn from. -/
namespace L3
open PySem PySem.Spec PyProof.Rows L2 ToD
theorem isI {K : PySem.W.Frag} {F : Hp} {p : Option Addr} (i : Int) : Is K p F (toD i) (.int i) := rfl
section
variable {P : Program} {w : World} {K : PySem.W.Frag} {mg : Str → Option Value} {base h : Heap} {kn : Str → Bool}
theorem ok_box (T : TF K mg h) : ∃ fd, FnOk P w K mg base (L2.CX P w) 1 (He.ga K "_law_box") fd ["_law_script", "_law_k"] (spBox K) ∧ Binds K fd ["_law_script", "_law_k"] [] ∧ PySem.W.keepIn K (.ref (He.ga K "_law_box")) = true := by
  obtain ⟨fd, Fd⟩ := T.f__law_box
  refine ⟨fd, ?_, Fd.bindsN fun _ _ _ _ _ _ us hl => match us, hl with | [_, _], _ => rfl, Fd.kp⟩
  refine Fd.ok sc__law_box (fun vs H Q E hsp => ?_) (fun cdv A outer s H vs R Z hr hsp => ?_)
  · obtain ⟨a, ns, k, rfl, _⟩ := hsp
    rfl
  · obtain ⟨a, ns, k, rfl, hS, hk0, hk1, hR⟩ := hsp
    refine ⟨tSx _ _, tSx_pss _, ?_⟩
    let X : Cx := cxOf (L2.CX P w) P w K mg base ["_law_script", "_law_k", "_law_cell"] "_law_box" (defScope d__law_box) (He.ga K "_law_box") cdv A outer s H Z
    show Sx X (defBody d__law_box) (start ["_law_script", "_law_k", "_law_cell"] [.ref a, .int k]) H { nx := fun _ H' => R .non H', rt := R }
    have tk : Takes X (fun c d _ H => Z c d H) := takes_of rfl rfl rfl rfl
    have cf : Cf X noBox H H 0 (fun (_ : Unit) _ => False) (fun _ _ => False) R Z := ⟨tk, Ex.refl H, Bx.no, ⟨fun _ _ _ _ _ q => q.elim, fun _ _ _ _ _ _ q => q.elim⟩⟩
    have is0 : Is X.K noBox.at_ H (toD (Scr.mk ns)) (.ref a) := ⟨a, rfl, hS⟩
    have hc : X.calm = true := rfl
    refine sx_asg (i := 2) (k := fun z => fun _ _ _ => True) cf
      (ev_if (et_lt (ev_var (x := k) (i := 1) (v := .int k) rfl (.inl rfl) rfl rfl) (ev_len rfl T.n_len (ev_var (x := Scr.mk ns) (i := 0) (v := .ref a) rfl (.inl rfl) rfl is0)))
        (ev_ixS (ev_var (x := Scr.mk ns) (i := 0) (v := .ref a) rfl (.inl rfl) rfl is0) (ev_var (x := k) (i := 1) (v := .int k) rfl (.inl rfl) rfl rfl))
        (ev_add (ev_add (ev_mul ev_int (ev_var (x := k) (i := 1) (v := .int k) rfl (.inl rfl) rfl rfl)) ev_int) (ev_mod (ev_sum1 hc rfl T.n_sum (ev_var (x := Scr.mk ns) (i := 0) (v := .ref a) rfl (.inl rfl) rfl is0)) ev_int)))
      ?_ (fun z N1 v F1 H1 hm g cf i => ?_) sc__law_box.nd rfl (.inl rfl)
    · refine ⟨trivial, ?_⟩
      show (cond (decide (k < (ns.length : Int))) (M.at ns k) _ : M Int) _ _ _
      by_cases hk : k < (ns.length : Int)
      · rw [decide_eq_true hk]
        have hj : k.toNat < ns.length := by omega
        exact ⟨ns[k.toNat], atI_int (j := k.toNat) (by omega) (by simp [hj]), trivial⟩
      · rw [decide_eq_false hk]
        exact ⟨wide_mul (a := 100) (b := 40) (by decide) (by omega) (by decide) (by decide) (by decide), by decide, trivial⟩
    · have ev : v = .int z := i
      subst ev
      refine sx_retL (N := N1) (Q := fun xs _ => ∃ c0 c1, xs = [c0, c1, 0] ∧ 0 ≤ c0 ∧ 0 ≤ c1 ∧ c1 < 2 ^ 40) (E := fun _ _ => False) (evl_cons (ev_max2 hc rfl T.n_max ev_int (ev_sub (ev_var (x := z) (i := 2) (v := .int z) rfl (.inl rfl) rfl rfl) (ev_pow ev_int ev_int))) (evl_cons (ev_mod (ev_var (x := z) (i := 2) (v := .int z) rfl (.inl rfl) rfl rfl) ev_int) (evl_cons ev_int evl_nil)))
        tk cf.e Bx.no ?_ (fun _ _ _ _ _ _ q => q.elim) (fun xs N2 vs F2 H2 p q g2 b2 il np => ?_) (fun xs N2 q => ?_)
      · refine ⟨⟨by decide, by decide, by decide⟩, by decide, _, _, rfl, ?_, ?_, ?_⟩
        · unfold maxI
          split <;> omega
        · exact Int.fmod_nonneg_of_pos _ (by decide)
        · exact Int.lt_trans (Int.fmod_lt_of_pos _ (by decide)) (by decide)
      · obtain ⟨c0, c1, rfl, h0, h1, h2⟩ := q
        obtain ⟨w0, r0, rfl, j0, il⟩ := il
        obtain ⟨w1, r1, rfl, j1, il⟩ := il
        obtain ⟨w2, r2, rfl, j2, il⟩ := il
        have e0 : w0 = .int c0 := j0
        have e1 : w1 = .int c1 := j1
        have e2 : w2 = .int 0 := j2
        have e3 : r2 = [] := il
        subst e0 e1 e2 e3
        exact hR H2 p c0 c1 (fun b o q => g2.h b o (fun z => by cases z) (g.h b o (fun z => by cases z) q)) np h0 h1 h2
      · obtain ⟨c0, c1, rfl, _⟩ := q
        show 3 ≤ 1000
        decide
theorem ok_take (T : TF K mg h) (a : Addr) : Ok P w K mg base (bxB a) 1 (He.ga K "_law_take") ["_law_box_here", "_law_many"] (fun p : BoxT × Int × Unit => [toD p.1, toD p.2.1]) (fun p => drawM p.2.1) := by
  obtain ⟨fd, Fd⟩ := T.f__law_take
  refine ⟨fd, ?_, Fd.bindsN fun _ _ _ _ _ _ us hl => match us, hl with | [_, _], _ => rfl, Fd.kp⟩
  refine fn_mir Fd sc__law_take (fun _ => rfl) ?_
  intro X ⟨bt, many, _⟩ vs F H n Q E R Z cdv A outer s hX hr hi hm cf hp
  obtain ⟨v0, r0, rfl, ⟨a', ea, ev⟩, hi⟩ := hi
  obtain ⟨v1, r1, rfl, i1, hi⟩ := hi
  have hr1 : r1 = [] := hi
  have hv1 : v1 = .int many := i1
  cases (show some a = some a' from ea)
  subst hr1 hX ev hv1
  obtain ⟨hF, vs, hH, c0, c1, c2, rfl, k0, k1, k2, k3, k4⟩ := cf.b a rfl
  obtain ⟨m0, m1, m2, hq⟩ : drawM many n Q E := hm
  have at0 : ∀ c0 c1 c2 : Int, atI [c0, c1, c2] 0 = some c0 := fun _ _ _ => rfl
  have at1 : ∀ c0 c1 c2 : Int, atI [c0, c1, c2] 1 = some c1 := fun _ _ _ => rfl
  have at2 : ∀ c0 c1 c2 : Int, atI [c0, c1, c2] 2 = some c2 := fun _ _ _ => rfl
  refine sx_ifB (P := fun z N1 => N1 = n ∧ z = decide (0 < c0)) cf hH (et_gt (ev_ix (ev_var (x := [c0, c1, c2]) (i := 0) (v := .ref a) rfl (.inl rfl) rfl (is_cells upd_same)) ev_int) ev_int) ⟨c0, rfl, ⟨rfl, rfl⟩, c0, c1, c2, rfl, k0, k1, k2, k3, k4⟩ (fun N1 F1 H1 hP hH1 g1 cf1 => ?_) (fun N1 F1 H1 hP hH1 g1 cf1 => sx_nil ?_)
  · obtain ⟨e1, e0⟩ := hP
    subst e1
    have e0 := of_decide_eq_true e0.symm
    refine sx_asgB (i := 2) (P := fun z N2 => N2 = N1 ∧ z = c0.fmod many) cf1 hH1 (ev_mod (ev_ix (ev_var (x := [c0, c1, c2]) (i := 0) (v := .ref a) rfl (.inl rfl) rfl (is_cells upd_same)) ev_int) (ev_var (x := many) (i := 1) (v := .int many) rfl (.inl rfl) rfl rfl)) ⟨c0, rfl, by omega, ⟨rfl, rfl⟩, c0, c1, c2, rfl, k0, k1, k2, k3, k4⟩ (fun z N2 F2 H2 hP2 hH2 g2 cf2 => ?_) sc__law_take.nd rfl (.inl rfl)
    obtain ⟨e2, e3⟩ := hP2
    subst e2 e3
    have d0 : 0 ≤ c0.fdiv many := Int.fdiv_nonneg (by omega) (by omega)
    refine sx_bset (i := 0) (j := 0) (P := fun z N3 => N3 = N2 ∧ z = c0.fdiv many) cf2 hH2 (ev_fdiv (ev_ix (ev_var (x := [c0, c1, c2]) (i := 0) (v := .ref a) rfl (.inl rfl) rfl (is_cells upd_same)) ev_int) (ev_var (x := many) (i := 1) (v := .int many) rfl (.inl rfl) rfl rfl)) ⟨c0, rfl, ⟨by omega, m1⟩, ⟨rfl, rfl⟩, _, _, _, rfl, d0, k1, k2, k3, k4⟩ rfl (fun z N3 F3 H3 hP3 hH3 g3 cf3 => ?_) rfl (.inl rfl) rfl
    obtain ⟨e4, e5⟩ := hP3
    subst e4 e5
    have cf4 := cf3.on (N1 := N3 + 1) (Gd.refl cf3.e) (Bx.of (cf3.b a rfl).1 hH3 ⟨_, _, _, rfl, d0, k1, k2, k3, by omega⟩)
    exact sx_ret cf4 (ev_var (x := c0.fmod many) (i := 2) (v := .int (c0.fmod many)) rfl (.inl rfl) rfl rfl) (hq _ (Int.fmod_nonneg_of_pos _ m0) (Int.fmod_lt_of_pos _ m0)) rfl
  · obtain ⟨e1, e0⟩ := hP
    subst e1
    refine sx_bset (i := 2) (j := 0) (P := fun z N3 => N3 = N1 + 1 ∧ z = c2 + 1) (m := fun N Q E => ∃ x, atI [c0, c1, c2] 2 = some x ∧ Q (x + 1) (N + 1)) cf1 hH1 ?_ ⟨c2, rfl, ⟨rfl, rfl⟩, _, _, _, rfl, k0, k1, k2, by omega, by omega⟩ rfl (fun z N3 F3 H3 hP3 hH3 g3 cf3 => ?_) rfl (.inl rfl) rfl
    · exact ev_step (ev_add (ev_ix (ev_var (x := [c0, c1, c2]) (i := 0) (v := .ref a) rfl (.inl rfl) rfl (is_cells upd_same)) ev_int) ev_int)
    obtain ⟨e4, e5⟩ := hP3
    subst e4 e5
    have hH3' : H3 a = some (.lst [.int c0, .int c1, .int (c2 + 1)]) := hH3
    have p0 : 0 ≤ c1 + 47111 * (c2 + 1) + 23 := by omega
    have p1 : c1 + 47111 * (c2 + 1) + 23 < 2 ^ 64 := by omega
    have OK3 : okBox (N1 + 1) [.int c0, .int c1, .int (c2 + 1)] := ⟨_, _, _, rfl, k0, k1, k2, by omega, by omega⟩
    refine sx_asgB (i := 3) (P := fun z N4 => N4 = N1 + 1 ∧ 0 ≤ z ∧ z < 2147483647) cf3 hH3' (ev_mod (ev_pow (ev_add (ev_add (ev_ix (ev_var (x := [c0, c1, (c2 + 1)]) (i := 0) (v := .ref a) rfl (.inl rfl) rfl (is_cells upd_same)) ev_int) (ev_mul ev_int (ev_ix (ev_var (x := [c0, c1, (c2 + 1)]) (i := 0) (v := .ref a) rfl (.inl rfl) rfl (is_cells upd_same)) ev_int))) ev_int) ev_int) ev_int)
      ⟨c1, rfl, c2 + 1, rfl, wide_mul (a := 40) (b := 60) (by decide) (by omega) (by decide) (by decide) (by decide), pow_small p0 p1 _ (by decide) (by decide), by decide, ⟨rfl, Int.fmod_nonneg_of_pos _ (by decide), Int.fmod_lt_of_pos _ (by decide)⟩, OK3⟩ (fun z N4 F4 H4 hP4 hH4 g4 cf4 => ?_) sc__law_take.nd rfl (.inl rfl)
    obtain ⟨e6, z0, z1⟩ := hP4
    subst e6
    have q0 : 0 ≤ z + 88007 * (c2 + 1) := by omega
    have q1 : z + 88007 * (c2 + 1) < 2 ^ 64 := by omega
    refine sx_retB cf4 hH4 (ev_mod (ev_fdiv (ev_mod (ev_pow (ev_add (ev_var (x := z) (i := 3) (v := .int z) rfl (.inl rfl) rfl rfl) (ev_mul ev_int (ev_ix (ev_var (x := [c0, c1, (c2 + 1)]) (i := 0) (v := .ref a) rfl (.inl rfl) rfl (is_cells upd_same)) ev_int))) ev_int) ev_int) ev_int) (ev_var (x := many) (i := 1) (v := .int many) rfl (.inl rfl) rfl rfl)) ?_ rfl
    exact ⟨c2 + 1, rfl, wide_mul (a := 40) (b := 60) (by decide) (by omega) (by decide) (by decide) (by decide), pow_small q0 q1 _ (by decide) (by decide), by decide, ⟨by decide, by decide⟩, by omega, hq _ (Int.fmod_nonneg_of_pos _ m0) (Int.fmod_lt_of_pos _ m0), OK3⟩
end
end L3

set_option Elab.async false
set_option linter.all false
set_option maxRecDepth 100000
set_option maxHeartbeats 4000000
/-! The law's own defs. -/
namespace L3
open PySem PySem.Spec PyProof.Rows L2 ToD
section
variable {P : Program} {w : World} {K : PySem.W.Frag} {mg : Str → Option Value} {base h : Heap} {B : Box} {kn : Str → Bool}
/-! ### total -/
def sumD (kn : Str → Bool) : Rat → List D → M Rat
  | acc, [] => M.pure acc
  | acc, d :: ds => M.ask (isNumB d = true) (M.bind (qAdd kn (acc, d, ())) fun a => sumD kn a ds)
def totD (kn : Str → Bool) : D → M Rat
  | .lst ds => sumD kn 0 ds
  | .tup ds => sumD kn 0 ds
  | _ => M.bad
theorem sum_raw : ∀ (ds : List D) (acc : Rat) (N : Nat) (Q : Rat → Nat → Prop) (E : Err → Nat → Prop), sumD kn acc ds N Q E →
    M.forK (fun d st nxt => M.bind (M.ask (isNumB d = true) (qAdd kn (st, d, ()))) nxt) (fun st => M.pure st) ds acc N Q E := by
  intro ds
  induction ds with
  | nil => intro acc N Q E h; exact h
  | cons d ds ih =>
    intro acc N Q E h
    obtain ⟨h1, h2⟩ := h
    refine ⟨h1, ?_⟩
    cases d with
    | int i => exact ⟨h2.1, ih _ _ _ _ h2.2⟩
    | rat q => exact ⟨h2.1, ih _ _ _ _ h2.2⟩
    | _ => cases h1
theorem ok_total (T : TF K mg h) (kk : Kn K kn) (hq : kn "Ratio" = true) : Ok P w K mg base B 7 (He.ga K "total") ["numbers"] encD (fun p => totD kn p.1) := by
  obtain ⟨fd, Fd⟩ := T.f_total
  refine ⟨fd, ?_, Fd.bindsN fun _ _ _ _ _ _ us hl => match us, hl with | [_], _ => rfl, Fd.kp⟩
  refine fn_mir Fd sc_total (fun _ => rfl) ?_
  intro X ⟨d, _⟩ vs F H n Q E R Z cdv A outer s hX hr hi hm cf hp
  obtain ⟨v0, r0, rfl, i0, hi⟩ := hi
  have hr1 : r0 = [] := hi
  subst hr1 hX
  refine sx_asg (i := 1) (k := fun z => M.bind (fun N Q E => ∃ ds, (d = .lst ds ∨ d = .tup ds) ∧ Q ds N) fun ds => M.forK (fun d st nxt => M.bind (M.ask (isNumB d = true) (qAdd kn (st, d, ()))) nxt) (fun st => M.pure st) ds z) cf (ev_ratio1 (ratC T) (hr.mono (by decide)) ev_int) ?_ (fun z N1 v1 F1 H1 hm1 g1 cf1 i1 => ?_) sc_total.nd rfl (.inl rfl)
  · cases d with
    | lst ds => exact ⟨ds, .inl rfl, sum_raw ds _ n Q E hm⟩
    | tup ds => exact ⟨ds, .inr rfl, sum_raw ds _ n Q E hm⟩
    | _ => exact hm.elim
  · have i0 := i0.mono g1.f
    obtain ⟨ds, hd, hm2⟩ := hm1
    refine sx_for (S := Rat) (fun st σ F H => ∃ w1 o2, σ = [some v0, some w1, o2] ∧ Is K B.at_ F (toD st) w1) cf1 (mx := M.pure ds) ?_ (evg_name (i := 2) sc_total.nd rfl (.inl rfl)) hm2 ⟨v1, _, rfl, i1⟩ ?_ ?_ ?_ hp rfl
    · rcases hd with rfl | rfl
      · exact evi_list (ev_var (x := ds) (i := 0) (v := v0) rfl (.inl rfl) rfl (by rw [toD_listD]; exact i0))
      · exact evi_tup (ev_var (x := Tp.mk ds) (i := 0) (v := v0) rfl (.inl rfl) rfl (by rw [toD_tpD]; exact i0))
    · rintro st σ F H F1 H1 ⟨w1, o2, rfl, i1⟩ g
      exact ⟨w1, o2, rfl, i1.mono g.f⟩
    · rintro x st σ σ1 F H N nxt D' ⟨w1, o2, rfl, i1⟩ ⟨v2, i2, rfl⟩ cf hm hD hn hb
      refine sx_asg (i := 1) (k := nxt) cf (ev_binD (ok_q_add T kk hq) T.q_b_add hr (ev_var (x := st) (i := 1) (v := w1) rfl (.inl rfl) rfl i1) (ev_var (x := x) (i := 2) (v := v2) rfl (.inl rfl) rfl i2)) hm (fun z N1 v3 F3 H3 hm3 g3 cf3 i3 => sx_nil ?_) sc_total.nd rfl (.inl rfl)
      exact (hn z _ F3 H3 N1 ⟨v3, _, rfl, i3⟩ g3.f cf3 hm3).1
    · rintro st σ F H N ⟨w1, o2, rfl, i1⟩ cf hm
      exact sx_ret cf (ev_var (x := st) (i := 1) (v := w1) rfl (.inl rfl) rfl i1) hm rfl
/-! ### _law_whole -/
/-- a whole number of any of five sizes -/
def wholeM : M Int := M.bind (drawM 5) fun r => M.bind (M.at [3, 12, 100, (10 : Int) ^ (9 : Int).toNat, (10 : Int) ^ (28 : Int).toNat] r) fun big => M.bind (drawM (2 * big + 1)) fun z => M.pure (z - big)
theorem ok_whole (T : TF K mg h) (p : Addr) : Ok P w K mg base (bxB p) 2 (He.ga K "_law_whole") ["_law_box_here"] (fun p : BoxT × Unit => [toD p.1]) (fun _ => wholeM) := by
  obtain ⟨fd, Fd⟩ := T.f__law_whole
  refine ⟨fd, ?_, Fd.bindsN fun _ _ _ _ _ _ us hl => match us, hl with | [_], _ => rfl, Fd.kp⟩
  refine fn_mir Fd sc__law_whole (fun _ => rfl) ?_
  intro X ⟨d, _⟩ vs F H n Q E R Z cdv A outer s hX hr hi hm cf hp
  obtain ⟨v0, r0, rfl, i0, hi⟩ := hi
  have hr1 : r0 = [] := hi
  subst hr1 hX
  refine sx_asg (i := 1) (k := fun big => M.bind (drawM (2 * big + 1)) fun z => M.pure (z - big)) cf (ev_ix (ev_lstA (evl_cons ev_int (evl_cons ev_int (evl_cons ev_int (evl_cons (ev_pow ev_int ev_int) (evl_cons (ev_pow ev_int ev_int) evl_nil)))))) (ev_callO (ok_take T p) (hr.mono (by decide)) rfl T.g__law_take (eva_cons (ev_var (x := BoxT.mk) (i := 0) (v := v0) rfl (.inl rfl) rfl i0) (eva_cons ev_int eva_nil)))) ?_ (fun big N1 v1 F1 H1 hm1 g1 cf1 i1 => ?_) sc__law_whole.nd rfl (.inl rfl)
  · exact ⟨⟨by decide, by decide, by decide⟩, ⟨by decide, by decide, by decide⟩, by decide, hm⟩
  · have i0 := i0.mono g1.f
    refine sx_ret cf1 (ev_sub (ev_callO (ok_take T p) (hr.mono (by decide)) rfl T.g__law_take (eva_cons (ev_var (x := BoxT.mk) (i := 0) (v := v0) rfl (.inl rfl) rfl i0) (eva_cons (ev_add (ev_mul ev_int (ev_var (x := big) (i := 1) (v := v1) rfl (.inl rfl) rfl i1)) ev_int) eva_nil))) (ev_var (x := big) (i := 1) (v := v1) rfl (.inl rfl) rfl i1)) ?_ rfl
    obtain ⟨d0, d1, d2, hq⟩ : drawM (2 * big + 1) N1 (fun z N => Q (z - big) N) E := hm1
    refine ⟨?_, d0, d1, d2, hq⟩
    have hb : big.natAbs ≠ 0 → big.natAbs.log2 < 9000 := fun h0 => by
      have h1 : (2 * big + 1).natAbs < 2 ^ 9000 := (Nat.log2_lt (by omega)).mp d1
      exact (Nat.log2_lt h0).mpr (Nat.lt_of_le_of_lt (by omega) h1)
    show (2 : Int).natAbs.log2 + big.natAbs.log2 < 1000000
    have h2 : (2 : Int).natAbs.log2 = 1 := by decide
    by_cases h0 : big.natAbs = 0
    · rw [h0, h2]; decide
    · have := hb h0
      omega
end
end L3

set_option Elab.async false
set_option linter.all false
set_option maxRecDepth 100000
set_option maxHeartbeats 4000000
set_option exponentiation.threshold 10000
/-! The law's own defs: what a quotient is, what is reckoned with two. -/
namespace L3
open PySem PySem.Spec PyProof.Rows L2 ToD
/-! ### sizes -/
def szI (i : Int) : Prop := i.natAbs < 2 ^ 4000
theorem divInt_bound {t b : Int} {k : Nat} (hb : b ≠ 0) (h1 : t.natAbs < 2 ^ k) (h2 : b.natAbs < 2 ^ k) : Bq k (Rat.divInt t b) := by
  constructor
  · rw [Rat.num_divInt]
    refine Nat.lt_of_le_of_lt ?_ h1
    refine Nat.le_trans (Int.natAbs_ediv_le_natAbs _ _) ?_
    rw [Int.natAbs_mul, Int.natAbs_sign_of_ne_zero hb, Nat.one_mul]
    exact Nat.le_refl _
  · rw [Rat.den_divInt, if_neg hb]
    exact Nat.lt_of_le_of_lt (Nat.div_le_self _ _) h2
theorem num_den_divInt {q : Rat} {t b : Int} (hb : b ≠ 0) (h : q = Rat.divInt t b) : q.num * b = t * (q.den : Int) := by
  have e : Rat.divInt q.num q.den = Rat.divInt t b := by rw [Rat.num_divInt_den]; exact h
  exact (Rat.divInt_eq_divInt_iff (q_den0 q) hb).mp e
/-! ### _law_is -/
def isM (p : Rat × Int × Int × Unit) : M Bool := M.ask (Sz p.1 ∧ szI p.2.1 ∧ szI p.2.2.1 ∧ p.2.2.1 ≠ 0 ∧ p.1 = Rat.divInt p.2.1 p.2.2.1) (M.pure true)
def cdPos : Nat → Int × Int → M Bool := M.whileK (fun st : Int × Int => M.pure (decide (0 < st.2))) (fun st nxt => M.ask (st.2 ≠ 0) (nxt (st.2, st.1.fmod st.2))) (fun st => M.pure (decide (st.1 = 1)))
theorem cdPos_raw : ∀ (n : Nat) (a b : Int), 0 ≤ a → 0 ≤ b → b.natAbs < n → ∀ (N : Nat) (Q : Bool → Nat → Prop) (E : Err → Nat → Prop), Q (decide (Int.gcd a b = 1)) N → cdPos n (a, b) N Q E := by
  intro n
  induction n with
  | zero => intro a b _ _ h; omega
  | succ n ih =>
    intro a b ha hb h N Q E q
    show (cond (decide (0 < b)) (M.ask (b ≠ 0) (cdPos n (b, a.fmod b))) (M.pure (decide (a = 1)))) N Q E
    by_cases h0 : 0 < b
    · rw [decide_eq_true h0]
      refine ⟨by omega, ih b (a.fmod b) hb (Int.fmod_nonneg_of_pos a h0) (by have := Int.fmod_lt_of_pos a h0; have := Int.fmod_nonneg_of_pos a h0; omega) N Q E ?_⟩
      have : Int.gcd b (a.fmod b) = Int.gcd a b := by
        rw [Int.fmod_def, Int.gcd_sub_mul_left_right, Int.gcd_comm]
      rw [this]
      exact q
    · rw [decide_eq_false h0]
      have e : b = 0 := by omega
      subst e
      have e2 : Int.gcd a 0 = a.natAbs := Int.gcd_zero_right a
      rw [e2] at q
      have e3 : decide (a.natAbs = 1) = decide (a = 1) := by
        rw [decide_eq_decide]
        omega
      rw [e3] at q
      exact q
section
variable {P : Program} {w : World} {K : PySem.W.Frag} {mg : Str → Option Value} {base h : Heap} {B : Box} {kn : Str → Bool}
theorem ok_is (T : TF K mg h) (kk : Kn K kn) (hq : kn "Ratio" = true) : Ok P w K mg base B 3 (He.ga K "_law_is") ["_law_ratio", "_law_top", "_law_bottom"] (fun p : Rat × Int × Int × Unit => [toD p.1, toD p.2.1, toD p.2.2.1]) isM := by
  obtain ⟨fd, Fd⟩ := T.f__law_is
  refine ⟨fd, ?_, Fd.bindsN fun _ _ _ _ _ _ us hl => match us, hl with | [_, _, _], _ => rfl, Fd.kp⟩
  refine fn_mir Fd sc__law_is (fun _ => rfl) ?_
  intro X ⟨q, t, b, _⟩ vs F H n Q E R Z cdv A outer s hX hr hi hm cf hp
  obtain ⟨v0, r0, rfl, i0, hi⟩ := hi
  obtain ⟨v1, r1, rfl, i1, hi⟩ := hi
  obtain ⟨v2, r2, rfl, i2, hi⟩ := hi
  have hr1 : r2 = [] := hi
  subst hr1 hX
  obtain ⟨⟨s1, s2, s3, hb, he⟩, hm⟩ := hm
  refine sx_if (ka := M.bad) (kb := fun N1 _ _ => N1 = n) cf (et_or (et_not (et_val (ev_isiC (kn := kn) hq kk (ev_toD (ev_var (x := q) (i := 0) (v := v0) rfl (.inl rfl) rfl i0)) rfl T.n_isinstance rfl T.g_Ratio))) (fun _ => (et_or (et_lt (ev_bot T (hr.mono (by decide)) (ev_var (x := q) (i := 0) (v := v0) rfl (.inl rfl) rfl i0)) ev_int) (fun _ => (et_or1 (et_neS (ev_mul (ev_top T (hr.mono (by decide)) (ev_var (x := q) (i := 0) (v := v0) rfl (.inl rfl) rfl i0)) (ev_var (x := b) (i := 2) (v := v2) rfl (.inl rfl) rfl i2)) (ev_mul (ev_var (x := t) (i := 1) (v := v1) rfl (.inl rfl) rfl i1) (ev_bot T (hr.mono (by decide)) (ev_var (x := q) (i := 0) (v := v0) rfl (.inl rfl) rfl i0))))))))) ?_ (fun N1 F1 H1 hm1 g1 cf1 => hm1.elim) (fun N1 F1 H1 hm1 g1 cf1 => sx_nil ?_)
  · refine ⟨hq, ?_⟩
    show (cond (decide ((q.den : Int) < 1)) (M.pure true) (M.ask (CMulW q.num b) (M.ask (CMulW t (q.den : Int)) (M.pure (!decide (q.num * b = t * (q.den : Int))))))) n _ _
    rw [decide_eq_false (by have := q.den_pos; omega)]
    refine ⟨cmulw s1.1 s3, cmulw s2 s1.2, ?_⟩
    rw [decide_eq_true (num_den_divInt hb he)]
    rfl
  · subst hm1
    have i0 := i0.mono g1.f
    refine sx_par (i := 3) (j := 4) (k := fun x y => cdPos (q.den + 1) (x, y)) cf1 (ev_callB call_abs (by rfl) T.n_abs (by decide +kernel) (eva_cons (ev_top T (hr.mono (by decide)) (ev_var (x := q) (i := 0) (v := v0) rfl (.inl rfl) rfl i0)) eva_nil) opk_abs) (ev_bot T (hr.mono (by decide)) (ev_var (x := q) (i := 0) (v := v0) rfl (.inl rfl) rfl i0)) ?_ (fun x y N2 v3 v4 F2 H2 hm2 g2 cf2 i3 i4 => ?_) rfl sc__law_is.nd rfl rfl (by decide) rfl rfl rfl
    · refine cdPos_raw _ _ _ (by rw [iabs_nat]; omega) (by omega) (by omega) _ _ _ ?_
      have e : Int.gcd (iabs q.num) (q.den : Int) = 1 := by
        rw [iabs_nat]
        have := q.reduced
        unfold Nat.Coprime at this
        unfold Int.gcd
        simpa using this
      rw [e]
      exact hm
    · refine sx_while (S := Int × Int) (fun st σ F H => ∃ w3 w4, σ = [some v0, some v1, some v2, some w3, some w4] ∧ Is K B.at_ F (toD st.1) w3 ∧ Is K B.at_ F (toD st.2) w4) cf2 hm2 ⟨v3, v4, rfl, i3, i4⟩ ?_ ?_ ?_ ?_ hp
      · rintro st σ F H ⟨w3, w4, rfl, i3, i4⟩
        exact (et_gt (ev_var (x := st.2) (i := 4) (v := w4) rfl (.inl rfl) rfl i4) ev_int)
      · rintro st σ F H F1 H1 ⟨w3, w4, rfl, i3, i4⟩ g
        exact ⟨w3, w4, rfl, i3.mono g.f, i4.mono g.f⟩
      · rintro st σ F H N nxt D' ⟨w3, w4, rfl, i3, i4⟩ cf hm hD hn
        refine sx_par (i := 3) (j := 4) (k := fun x y => nxt (x, y)) cf (ev_var (x := st.2) (i := 4) (v := w4) rfl (.inl rfl) rfl i4) (ev_mod (ev_var (x := st.1) (i := 3) (v := w3) rfl (.inl rfl) rfl i3) (ev_var (x := st.2) (i := 4) (v := w4) rfl (.inl rfl) rfl i4)) hm ?_ rfl sc__law_is.nd rfl rfl (by decide) rfl rfl rfl
        intro x y N1 v u F1 H1 hm g cf i3 i4
        exact sx_nil (hn (x, y) _ F1 H1 N1 ⟨v, u, rfl, i3, i4⟩ cf hm)
      · rintro st σ F H N ⟨w3, w4, rfl, i3, i4⟩ cf hm
        exact sx_ret cf (ev_eqS (ev_var (x := st.1) (i := 3) (v := w3) rfl (.inl rfl) rfl i3) ev_int) hm rfl
end
end L3

set_option Elab.async false
set_option linter.all false
set_option maxRecDepth 100000
set_option maxHeartbeats 4000000
set_option exponentiation.threshold 10000
/-! The law's own defs: what is reckoned with two. -/
namespace L3
open PySem PySem.Spec PyProof.Rows L2 ToD
theorem isM_true {q : Rat} {t b : Int} {N : Nat} {Q : Bool → Nat → Prop} {E : Err → Nat → Prop} (hb : b ≠ 0) (h1 : szI t) (h2 : szI b) (he : q = Rat.divInt t b) (hq : Q true N) : isM (q, t, b, ()) N Q E :=
  ⟨⟨he ▸ divInt_bound hb h1 h2, h1, h2, hb, he⟩, hq⟩
/-- a datum is the number q -/
def numIs (d : D) (q : Rat) : Prop := d = .rat q ∨ ∃ i : Int, d = .int i ∧ q = (i : Rat)
theorem numIs.num {d : D} {q : Rat} (h : numIs d q) : isNumB d = true := by
  rcases h with rfl | ⟨i, rfl, _⟩ <;> rfl
theorem numIs.cmp {d : D} {q : Rat} (h : numIs d q) : cmpOk d := by
  rcases h with rfl | ⟨i, rfl, _⟩
  · exact cmpOk_rat
  · exact cmpOk_int
theorem numIs.as {kn : Str → Bool} {d : D} {q : Rat} (h : numIs d q) {N : Nat} {Q : Rat → Nat → Prop} {E : Err → Nat → Prop} (k : Q q N) : asQ kn d N Q E := by
  rcases h with rfl | ⟨i, rfl, rfl⟩ <;> exact k
theorem numIs.eq {d : D} {q : Rat} (h : numIs d q) (p : Rat) : eqD p d = decide (p = q) := by
  rcases h with rfl | ⟨i, rfl, rfl⟩ <;> rfl
theorem numIs.ok {kn : Str → Bool} (hq : kn "Ratio" = true) {d : D} {q : Rat} (h : numIs d q) : okD kn d = true := by
  rcases h with rfl | ⟨i, rfl, rfl⟩
  · exact hq
  · rfl
theorem qEq_num {kn : Str → Bool} (hq : kn "Ratio" = true) {p q : Rat} {d : D} (h : numIs d q) {N : Nat} {Q : Bool → Nat → Prop} {E : Err → Nat → Prop} (k : Q (decide (p = q)) N) : qEq kn (p, d, ()) N Q E := by
  refine ⟨h.ok hq, ?_⟩
  have e := h.eq p
  show Q (eqD p d) N
  rw [e]
  exact k
theorem eqOk_pair (a b : Bool) : eqOk (toD (a, b)) = true := by cases a <;> cases b <;> decide
theorem eqv_pair (a b c d : Bool) : PyData.eqv (pyD (toD (a, b))) (pyD (toD (c, d))) = (a == c && b == d) := by cases a <;> cases b <;> cases c <;> cases d <;> decide
def sm (k : Nat) (i : Int) : Prop := i.natAbs < 2 ^ k
theorem sm.mul {a b : Int} {j k : Nat} (ha : sm j a) (hb : sm k b) : sm (j + k) (a * b) := by
  unfold sm at *
  rw [Int.natAbs_mul, Nat.pow_add]
  exact Nat.mul_lt_mul_of_lt_of_le ha (Nat.le_of_lt hb) (Nat.two_pow_pos _)
theorem sm.add {a b : Int} {k : Nat} (ha : sm k a) (hb : sm k b) : sm (k + 1) (a + b) := by
  unfold sm at *
  have := Int.natAbs_add_le a b
  rw [Nat.pow_succ]
  omega
theorem sm.sub {a b : Int} {k : Nat} (ha : sm k a) (hb : sm k b) : sm (k + 1) (a - b) := by
  unfold sm at *
  have := Int.natAbs_sub_le a b
  rw [Nat.pow_succ]
  omega
theorem sm.mono {a : Int} {j k : Nat} (h : sm j a) (l : j ≤ k := by decide) : sm k a := Nat.lt_of_lt_of_le h (Nat.pow_le_pow_right (by decide) l)
theorem sm.neg {a : Int} {k : Nat} (h : sm k a) : sm k (0 - a) := by
  unfold sm at *
  omega
theorem sm.cm {a b : Int} {j k : Nat} (ha : sm j a) (hb : sm k b) (hj : j ≤ 4000 := by decide) (hk : k ≤ 4000 := by decide) : CMulW a b := cmulw (ha.mono hj) (hb.mono hk)
theorem sm.sz {a b : Int} {k : Nat} (hb : b ≠ 0) (h1 : sm k a) (h2 : sm k b) (hk : k ≤ 4000 := by decide) : Sz (Rat.divInt a b) := (divInt_bound hb h1 h2).mono hk
/-- what two quotients' order is by whole numbers -/
def flip_ (b d x : Int) : Int := if b * d < 0 then 0 - x else x
theorem cross {a b c d : Int} (hb : b ≠ 0) (hd : d ≠ 0) : ((Rat.divInt a b).num * ((Rat.divInt c d).den : Int)) * (b * d) = (a * d) * (((Rat.divInt a b).den : Int) * ((Rat.divInt c d).den : Int)) := by
  have h := num_den_divInt hb (q := Rat.divInt a b) rfl
  grind
theorem cross_lt {x y s A C D : Int} (hD : 0 < D) (hs : s ≠ 0) (h1 : x * s = A * D) (h2 : y * s = C * D) : x < y ↔ (if s < 0 then 0 - A else A) < (if s < 0 then 0 - C else C) := by
  by_cases h0 : s < 0
  · rw [if_pos h0, if_pos h0]
    constructor
    · intro h
      have k1 : y * s < x * s := Int.mul_lt_mul_of_neg_right h h0
      rw [h1, h2] at k1
      have := Int.lt_of_mul_lt_mul_right k1 (by omega)
      omega
    · intro h
      have k1 : C * D < A * D := Int.mul_lt_mul_of_pos_right (by omega) hD
      rw [← h1, ← h2] at k1
      rcases (by omega : x < y ∨ y ≤ x) with z | z
      · exact z
      · have := Int.mul_le_mul_of_nonpos_right z (by omega : s ≤ 0)
        omega
  · rw [if_neg h0, if_neg h0]
    have h3 : 0 < s := by omega
    constructor
    · intro h
      have k1 : x * s < y * s := Int.mul_lt_mul_of_pos_right h h3
      rw [h1, h2] at k1
      exact Int.lt_of_mul_lt_mul_right k1 (by omega)
    · intro h
      have k1 : A * D < C * D := Int.mul_lt_mul_of_pos_right h hD
      rw [← h1, ← h2] at k1
      exact Int.lt_of_mul_lt_mul_right k1 (by omega)
theorem cross_all {a b c d : Int} (hb : b ≠ 0) (hd : d ≠ 0) : ∃ x y s D : Int, 0 < D ∧ s = b * d ∧ s ≠ 0 ∧ x = (Rat.divInt a b).num * ((Rat.divInt c d).den : Int) ∧ y = (Rat.divInt c d).num * ((Rat.divInt a b).den : Int) ∧ x * s = (a * d) * D ∧ y * s = (c * b) * D := by
  refine ⟨_, _, _, ((Rat.divInt a b).den : Int) * ((Rat.divInt c d).den : Int), ?_, rfl, Int.mul_ne_zero hb hd, rfl, rfl, cross hb hd, ?_⟩
  · exact Int.mul_pos (by have := (Rat.divInt a b).den_pos; omega) (by have := (Rat.divInt c d).den_pos; omega)
  · have := cross (a := c) (b := d) (c := a) (d := b) hd hb
    grind
theorem lt_flip {a b c d : Int} (hb : b ≠ 0) (hd : d ≠ 0) : decide (Rat.divInt a b < Rat.divInt c d) = decide (flip_ b d (a * d) < flip_ b d (c * b)) := by
  rw [decide_eq_decide, Rat.lt_iff]
  obtain ⟨x, y, s, D, hD, es, hs, ex, ey, h1, h2⟩ := cross_all (a := a) (b := b) (c := c) (d := d) hb hd
  rw [← ex, ← ey]
  unfold flip_
  rw [← es]
  exact cross_lt hD hs h1 h2
theorem le_flip {a b c d : Int} (hb : b ≠ 0) (hd : d ≠ 0) : decide (Rat.divInt a b ≤ Rat.divInt c d) = decide (flip_ b d (a * d) ≤ flip_ b d (c * b)) := by
  rw [decide_eq_decide, Rat.le_iff]
  obtain ⟨x, y, s, D, hD, es, hs, ex, ey, h1, h2⟩ := cross_all (a := a) (b := b) (c := c) (d := d) hb hd
  rw [← ex, ← ey]
  unfold flip_
  rw [← es]
  have := cross_lt hD hs h2 h1
  constructor
  · intro h
    rcases (by omega : (if s < 0 then 0 - c * b else c * b) < (if s < 0 then 0 - a * d else a * d) ∨ (if s < 0 then 0 - a * d else a * d) ≤ (if s < 0 then 0 - c * b else c * b)) with z | z
    · have := this.mpr z
      omega
    · exact z
  · intro h
    rcases (by omega : y < x ∨ x ≤ y) with z | z
    · have := this.mp z
      omega
    · exact z
theorem eq_flip {a b c d : Int} (hb : b ≠ 0) (hd : d ≠ 0) : decide (Rat.divInt a b = Rat.divInt c d) = decide (flip_ b d (a * d) = flip_ b d (c * b)) := by
  rw [decide_eq_decide, Rat.divInt_eq_divInt_iff hb hd]
  unfold flip_
  split <;> omega
/-- one is a over b, other c over d: they are reckoned with rightly -/
def recM (p : Rat × Int × Int × D × Int × Int × Unit) : M Bool := M.ask (p.2.2.1 ≠ 0 ∧ p.2.2.2.2.2.1 ≠ 0 ∧ sm 200 p.2.1 ∧ sm 200 p.2.2.1 ∧ sm 200 p.2.2.2.2.1 ∧ sm 200 p.2.2.2.2.2.1 ∧ p.1 = Rat.divInt p.2.1 p.2.2.1 ∧ numIs p.2.2.2.1 (Rat.divInt p.2.2.2.2.1 p.2.2.2.2.2.1)) (M.pure true)
section
variable {P : Program} {w : World} {K : PySem.W.Frag} {mg : Str → Option Value} {base h : Heap} {B : Box} {kn : Str → Bool}
theorem ok_reckoned (T : TF K mg h) (kk : Kn K kn) (hq : kn "Ratio" = true) : Ok P w K mg base B 7 (He.ga K "_law_reckoned") ["_law_one", "_law_a", "_law_b", "_law_other", "_law_c", "_law_d"] (fun p : Rat × Int × Int × D × Int × Int × Unit => [toD p.1, toD p.2.1, toD p.2.2.1, toD p.2.2.2.1, toD p.2.2.2.2.1, toD p.2.2.2.2.2.1]) recM := by
  obtain ⟨fd, Fd⟩ := T.f__law_reckoned
  refine ⟨fd, ?_, Fd.bindsN fun _ _ _ _ _ _ us hl => match us, hl with | [_, _, _, _, _, _], _ => rfl, Fd.kp⟩
  refine fn_mir Fd sc__law_reckoned (fun _ => rfl) ?_
  intro X ⟨one, a, b, other, c, d, _⟩ vs F H n Q E R Z cdv A outer s hX hr hi hm cf hp
  obtain ⟨v0, r0, rfl, i0, hi⟩ := hi
  obtain ⟨v1, r1, rfl, i1, hi⟩ := hi
  obtain ⟨v2, r2, rfl, i2, hi⟩ := hi
  obtain ⟨v3, r3, rfl, i3, hi⟩ := hi
  obtain ⟨v4, r4, rfl, i4, hi⟩ := hi
  obtain ⟨v5, r5, rfl, i5, hi⟩ := hi
  have hr1 : r5 = [] := hi
  subst hr1 hX
  obtain ⟨⟨hb, hd, sa, sb, sc, sd, he, ho⟩, hm⟩ : (b ≠ 0 ∧ d ≠ 0 ∧ sm 200 a ∧ sm 200 b ∧ sm 200 c ∧ sm 200 d ∧ one = Rat.divInt a b ∧ numIs other (Rat.divInt c d)) ∧ Q true n := hm
  have hU : (cxOf (L2.CX P w) P w K mg base ["_law_one", "_law_a", "_law_b", "_law_other", "_law_c", "_law_d", "_law_left", "_law_right"] "_law_reckoned" (defScope d__law_reckoned) (He.ga K "_law_reckoned") cdv A outer s H Z).A.units + 200 < cLine := by
    have := hr.un
    show A.units + 3 + 200 < cLine
    have e : (cxOf (L2.CX P w) P w K mg base ["_law_one", "_law_a", "_law_b", "_law_other", "_law_c", "_law_d", "_law_left", "_law_right"] "_law_reckoned" (defScope d__law_reckoned) (He.ga K "_law_reckoned") cdv A outer s H Z).A.units = A.units + 3 := rfl
    omega
  have z1 : Sz one := he ▸ sm.sz hb sa sb
  have z2 : Sz (Rat.divInt c d) := sm.sz hd sc sd
  have hbd : b * d ≠ 0 := Int.mul_ne_zero hb hd
  refine sx_if (ka := M.bad) (kb := fun N1 _ _ => N1 = n) cf (et_or (et_not (et_val (ev_callO (ok_is T kk hq) (hr.mono (by decide)) rfl T.g__law_is (eva_cons (ev_binD (ok_q_add T kk hq) T.q_b_add (hr.mono (by decide)) (ev_var (x := one) (i := 0) (v := v0) rfl (.inl rfl) rfl i0) (ev_var (x := other) (i := 3) (v := v3) rfl (.inl rfl) rfl i3)) (eva_cons (ev_add (ev_mul (ev_var (x := a) (i := 1) (v := v1) rfl (.inl rfl) rfl i1) (ev_var (x := d) (i := 5) (v := v5) rfl (.inl rfl) rfl i5)) (ev_mul (ev_var (x := c) (i := 4) (v := v4) rfl (.inl rfl) rfl i4) (ev_var (x := b) (i := 2) (v := v2) rfl (.inl rfl) rfl i2))) (eva_cons (ev_mul (ev_var (x := b) (i := 2) (v := v2) rfl (.inl rfl) rfl i2) (ev_var (x := d) (i := 5) (v := v5) rfl (.inl rfl) rfl i5)) eva_nil)))))) (fun _ => (et_or1 (et_not (et_val (ev_callO (ok_is T kk hq) (hr.mono (by decide)) rfl T.g__law_is (eva_cons (ev_binD (ok_q_sub T kk hq) T.q_b_sub (hr.mono (by decide)) (ev_var (x := one) (i := 0) (v := v0) rfl (.inl rfl) rfl i0) (ev_var (x := other) (i := 3) (v := v3) rfl (.inl rfl) rfl i3)) (eva_cons (ev_sub (ev_mul (ev_var (x := a) (i := 1) (v := v1) rfl (.inl rfl) rfl i1) (ev_var (x := d) (i := 5) (v := v5) rfl (.inl rfl) rfl i5)) (ev_mul (ev_var (x := c) (i := 4) (v := v4) rfl (.inl rfl) rfl i4) (ev_var (x := b) (i := 2) (v := v2) rfl (.inl rfl) rfl i2))) (eva_cons (ev_mul (ev_var (x := b) (i := 2) (v := v2) rfl (.inl rfl) rfl i2) (ev_var (x := d) (i := 5) (v := v5) rfl (.inl rfl) rfl i5)) eva_nil))))))))) ?_ (fun N1 F1 H1 hm1 g1 cf1 => hm1.elim) (fun N1 F1 H1 hm1 g1 cf1 => sx_nil ?_)
  · refine ⟨ho.num, ho.as ⟨⟨z1, z2⟩, sa.cm sd, sc.cm sb, sb.cm sd, isM_true hbd ((sa.mul sd).add (sc.mul sb)).mono (sb.mul sd).mono ?_ ⟨ho.num, ho.as ⟨⟨z1, z2⟩, sa.cm sd, sc.cm sb, sb.cm sd, isM_true hbd ((sa.mul sd).sub (sc.mul sb)).mono (sb.mul sd).mono ?_ rfl⟩⟩⟩⟩
    · rw [he]
      exact Rat.divInt_add_divInt _ _ hb hd
    · rw [he]
      exact Rat.divInt_sub_divInt _ _ hb hd
  subst hm1
  have i0 := i0.mono g1.f
  have i3 := i3.mono g1.f
  refine sx_if (ka := M.bad) (kb := fun N2 _ _ => N2 = N1) cf1 (et_or (et_not (et_val (ev_callO (ok_is T kk hq) (hr.mono (by decide)) rfl T.g__law_is (eva_cons (ev_binD (ok_q_mul T kk hq) T.q_b_mul (hr.mono (by decide)) (ev_var (x := one) (i := 0) (v := v0) rfl (.inl rfl) rfl i0) (ev_var (x := other) (i := 3) (v := v3) rfl (.inl rfl) rfl i3)) (eva_cons (ev_mul (ev_var (x := a) (i := 1) (v := v1) rfl (.inl rfl) rfl i1) (ev_var (x := c) (i := 4) (v := v4) rfl (.inl rfl) rfl i4)) (eva_cons (ev_mul (ev_var (x := b) (i := 2) (v := v2) rfl (.inl rfl) rfl i2) (ev_var (x := d) (i := 5) (v := v5) rfl (.inl rfl) rfl i5)) eva_nil)))))) (fun _ => (et_or1 (et_not (et_val (ev_callO (ok_is T kk hq) (hr.mono (by decide)) rfl T.g__law_is (eva_cons (ev_qneg (ok_q_neg T) (hr.mono (by decide)) (ev_var (x := one) (i := 0) (v := v0) rfl (.inl rfl) rfl i0)) (eva_cons (ev_sub ev_int (ev_var (x := a) (i := 1) (v := v1) rfl (.inl rfl) rfl i1)) (eva_cons (ev_var (x := b) (i := 2) (v := v2) rfl (.inl rfl) rfl i2) eva_nil))))))))) ?_ (fun N2 F2 H2 hm2 g2 cf2 => hm2.elim) (fun N2 F2 H2 hm2 g2 cf2 => sx_nil ?_)
  · refine ⟨ho.num, ho.as ⟨⟨z1, z2⟩, sa.cm sc, sb.cm sd, isM_true hbd (sa.mul sc).mono (sb.mul sd).mono ?_ ⟨z1, isM_true hb sa.neg.mono sb.mono ?_ rfl⟩⟩⟩
    · rw [he]
      exact Rat.divInt_mul_divInt _ _
    · rw [he, Int.zero_sub]
      exact Rat.neg_divInt _ _
  subst hm2
  have i0 := i0.mono g2.f
  have i3 := i3.mono g2.f
  refine sx_par (i := 6) (j := 7) (k := fun x y => fun N' _ _ => x = a * d ∧ y = c * b ∧ N' = N2) cf2 (ev_mul (ev_var (x := a) (i := 1) (v := v1) rfl (.inl rfl) rfl i1) (ev_var (x := d) (i := 5) (v := v5) rfl (.inl rfl) rfl i5)) (ev_mul (ev_var (x := c) (i := 4) (v := v4) rfl (.inl rfl) rfl i4) (ev_var (x := b) (i := 2) (v := v2) rfl (.inl rfl) rfl i2)) ⟨sa.cm sd, sc.cm sb, rfl, rfl, rfl⟩ (fun l r N3 v6 v7 F3 H3 hm3 g3 cf3 i6 i7 => ?_) rfl sc__law_reckoned.nd rfl rfl (by decide) rfl rfl rfl
  obtain ⟨e6, e7, e8⟩ := hm3
  subst e6 e7 e8
  have i0 := i0.mono g3.f
  have i3 := i3.mono g3.f
  refine sx_ifj (S := Int × Int) (ka := fun j => fun N1 Q E => b * d < 0 ∧ j (0 - a * d, 0 - c * b) N1 Q E) (kb := fun j => fun N1 Q E => ¬ b * d < 0 ∧ j (a * d, c * b) N1 Q E) (k := fun st => fun N' _ _ => st = (flip_ b d (a * d), flip_ b d (c * b)) ∧ N' = N3)
    (fun st σ F H => ∃ w6 w7, σ = [some v0, some v1, some v2, some v3, some v4, some v5, some w6, some w7] ∧ Is K B.at_ F (toD one) v0 ∧ Is K B.at_ F other v3 ∧ Is K B.at_ F (toD st.1) w6 ∧ Is K B.at_ F (toD st.2) w7) cf3 (et_lt (ev_mul (ev_var (x := b) (i := 2) (v := v2) rfl (.inl rfl) rfl i2) (ev_var (x := d) (i := 5) (v := v5) rfl (.inl rfl) rfl i5)) ev_int) ?_
    (fun N4 F4 H4 j D' hm4 g4 cf4 hD hj => ?_) (fun N4 F4 H4 j D' hm4 g4 cf4 hD hj => sx_nil ?_) ?_
  · refine ⟨sb.cm sd, ?_⟩
    show (cond (decide (b * d < 0)) _ _ : M Bool) N3 Q E
    by_cases h0 : b * d < 0
    · rw [decide_eq_true h0]
      refine ⟨h0, ?_, rfl⟩
      unfold flip_
      rw [if_pos h0, if_pos h0]
    · rw [decide_eq_false h0]
      refine ⟨h0, ?_, rfl⟩
      unfold flip_
      rw [if_neg h0, if_neg h0]
  · obtain ⟨h0, hj1⟩ := hm4
    refine sx_par (i := 6) (j := 7) (k := fun x y => j (x, y)) cf4 (ev_sub ev_int (ev_var (x := (a*d)) (i := 6) (v := v6) rfl (.inl rfl) rfl i6)) (ev_sub ev_int (ev_var (x := (c*b)) (i := 7) (v := v7) rfl (.inl rfl) rfl i7)) hj1 (fun x y N5 v8 v9 F5 H5 hm5 g5 cf5 i8 i9 => sx_nil ?_) rfl sc__law_reckoned.nd rfl rfl (by decide) rfl rfl rfl
    exact hj (x, y) _ F5 H5 N5 ⟨v8, v9, rfl, (i0.mono g4.f).mono g5.f, (i3.mono g4.f).mono g5.f, i8, i9⟩ cf5 hm5
  · exact hj (a * d, c * b) _ F4 H4 N4 ⟨v6, v7, rfl, i0.mono g4.f, i3.mono g4.f, i6, i7⟩ cf4 hm4.2
  · rintro ⟨l, r⟩ σ F5 H5 N5 ⟨w6, w7, rfl, i0, i3, i6, i7⟩ cf5 ⟨e1, e2⟩
    cases e1
    subst e2
    refine sx_if (ka := M.bad) (kb := fun N6 _ _ => N6 = N5) cf5 (et_or (et_neD hU (ev_pair (ev_qcmpD (fun _ _ => rfl) (ok_q_lt T kk hq) T.q_cmp (hr.mono (by decide)) (ev_var (x := one) (i := 0) (v := v0) rfl (.inl rfl) rfl i0) (ev_var (x := other) (i := 3) (v := v3) rfl (.inl rfl) rfl i3) (nomark _)) (ev_qcmpD (fun _ _ => rfl) (ok_q_le T kk hq) T.q_cmp (hr.mono (by decide)) (ev_var (x := one) (i := 0) (v := v0) rfl (.inl rfl) rfl i0) (ev_var (x := other) (i := 3) (v := v3) rfl (.inl rfl) rfl i3) (nomark _))) (ev_pair (ev_lt (ev_var (x := (flip_ b d (a*d))) (i := 6) (v := w6) rfl (.inl rfl) rfl i6) (ev_var (x := (flip_ b d (c*b))) (i := 7) (v := w7) rfl (.inl rfl) rfl i7)) (ev_le (ev_var (x := (flip_ b d (a*d))) (i := 6) (v := w6) rfl (.inl rfl) rfl i6) (ev_var (x := (flip_ b d (c*b))) (i := 7) (v := w7) rfl (.inl rfl) rfl i7)))) (fun _ => (et_or1 (et_neS (ev_qcmpD (fun _ _ => rfl) (ok_q_eq T kk hq) T.q_cmp (hr.mono (by decide)) (ev_var (x := one) (i := 0) (v := v0) rfl (.inl rfl) rfl i0) (ev_var (x := other) (i := 3) (v := v3) rfl (.inl rfl) rfl i3) (nomark _)) (ev_eqS (ev_var (x := (flip_ b d (a*d))) (i := 6) (v := w6) rfl (.inl rfl) rfl i6) (ev_var (x := (flip_ b d (c*b))) (i := 7) (v := w7) rfl (.inl rfl) rfl i7)))))) ?_ (fun N6 F6 H6 hm6 g6 cf6 => hm6.elim) (fun N6 F6 H6 hm6 g6 cf6 => sx_nil ?_)
    · refine ⟨ho.cmp, ho.as ⟨⟨z1, z2⟩, ho.cmp, ho.as ⟨⟨z1, z2⟩, ⟨eqOk_pair _ _, eqOk_pair _ _⟩, ?_⟩⟩⟩
      have e1 : PyData.eqv (pyD (toD (decide (one < Rat.divInt c d), decide (one ≤ Rat.divInt c d)))) (pyD (toD (decide (flip_ b d (a * d) < flip_ b d (c * b)), decide (flip_ b d (a * d) ≤ flip_ b d (c * b))))) = true := by
        rw [eqv_pair, he, lt_flip hb hd, le_flip hb hd]
        simp
      show (cond (!PyData.eqv (pyD (toD (decide (one < Rat.divInt c d), decide (one ≤ Rat.divInt c d)))) (pyD (toD (decide (flip_ b d (a * d) < flip_ b d (c * b)), decide (flip_ b d (a * d) ≤ flip_ b d (c * b)))))) (M.pure true) _ : M Bool) N5 _ _
      rw [e1]
      refine ⟨ho.cmp, qEq_num hq ho ?_⟩
      have e2 : decide (decide (one = Rat.divInt c d) = decide (flip_ b d (a * d) = flip_ b d (c * b))) = true := by
        rw [he, eq_flip hb hd]
        simp
      show (cond (!decide (decide (one = Rat.divInt c d) = decide (flip_ b d (a * d) = flip_ b d (c * b)))) M.bad (fun N6 _ _ => N6 = N5) : M Bool) N5 Q E
      rw [e2]
      rfl
    · subst hm6
      have i0 := i0.mono g6.f
      have i3 := i3.mono g6.f
      refine sx_ret cf6 (ev_or (ev_eqS (ev_var (x := c) (i := 4) (v := v4) rfl (.inl rfl) rfl i4) ev_int) (ev_one (ev_callO (ok_is T kk hq) (hr.mono (by decide)) rfl T.g__law_is (eva_cons (ev_qmeth (ok_q_over T kk hq) T.q_cl (hr.mono (by decide)) (by decide) (by decide) (fun _ _ => rfl) (ev_var (x := one) (i := 0) (v := v0) rfl (.inl rfl) rfl i0) (eva_cons (ev_var (x := other) (i := 3) (v := v3) rfl (.inl rfl) rfl i3) eva_nil)) (eva_cons (ev_mul (ev_var (x := a) (i := 1) (v := v1) rfl (.inl rfl) rfl i1) (ev_var (x := d) (i := 5) (v := v5) rfl (.inl rfl) rfl i5)) (eva_cons (ev_mul (ev_var (x := b) (i := 2) (v := v2) rfl (.inl rfl) rfl i2) (ev_var (x := c) (i := 4) (v := v4) rfl (.inl rfl) rfl i4)) eva_nil)))))) ?_ rfl
      show (cond (decide (c = 0)) (M.pure true) _ : M Bool) N6 Q E
      by_cases h0 : c = 0
      · rw [decide_eq_true h0]
        exact hm
      · rw [decide_eq_false h0]
        have hdz : decide (Rat.divInt c d = 0) = false := by
          rw [decide_eq_false]
          intro z
          have e : Rat.divInt c d = Rat.divInt 0 1 := by rw [z, Rat.zero_divInt]
          have := (Rat.divInt_eq_divInt_iff hd (by decide)).mp e
          omega
        refine ho.as ⟨⟨z1, z2⟩, ?_⟩
        show (cond (decide (Rat.divInt c d = 0)) _ _ : M Rat) N6 _ E
        rw [hdz]
        refine ⟨sa.cm sd, sb.cm sc, isM_true (Int.mul_ne_zero hb h0) (sa.mul sd).mono (sb.mul sc).mono ?_ hm⟩
        rw [he, Rat.div_def, Rat.inv_divInt, Rat.divInt_mul_divInt]
end
end L3

set_option Elab.async false
set_option linter.all false
set_option maxRecDepth 100000
set_option maxHeartbeats 4000000
/-! The law's own defs: what is refused. -/
namespace L3
open PySem PySem.Spec PyProof.Rows L2 ToD
section
variable {P : Program} {w : World} {K : PySem.W.Frag} {mg : Str → Option Value} {base h : Heap} {B : Box} {kn : Str → Bool}
def byzM (p : Rat × Unit) : M Bool := M.ask (Sz p.1) (M.pure true)
theorem sz_zero : Sz 0 := by
  constructor
  · show (0 : Nat) < 2 ^ 4000
    exact Nat.two_pow_pos _
  · show (1 : Nat) < 2 ^ 4000
    exact Nat.one_lt_two_pow (by decide)
theorem ok_by_zero (T : TF K mg h) (kk : Kn K kn) (hq : kn "Ratio" = true) : Ok P w K mg base B 7 (He.ga K "_law_by_zero") ["_law_one"] (fun p : Rat × Unit => [toD p.1]) byzM := by
  obtain ⟨fd, Fd⟩ := T.f__law_by_zero
  refine ⟨fd, ?_, Fd.bindsN fun _ _ _ _ _ _ us hl => match us, hl with | [_], _ => rfl, Fd.kp⟩
  refine fn_mir Fd sc__law_by_zero (fun _ => rfl) ?_
  intro X ⟨q, _⟩ vs F H n Q E R Z cdv A outer s hX hr hi hm cf hp
  obtain ⟨v0, r0, rfl, i0, hi⟩ := hi
  have hr1 : r0 = [] := hi
  subst hr1 hX
  obtain ⟨sz, hm⟩ : Sz q ∧ Q true n := hm
  refine sx_asg (i := 1) (k := fun z => fun N' Q' E' => N' = n ∧ z = 0) cf ev_int ⟨rfl, rfl⟩ (fun z N1 v1 F1 H1 hm1 g1 cf1 i1 => ?_) sc__law_by_zero.nd rfl (.inl rfl)
  obtain ⟨e1, e2⟩ := hm1
  subst e1 e2
  have i0 := i0.mono g1.f
  refine sx_for (S := Int) (fun st σ F H => ∃ w1 o2, σ = [some v0, some w1, o2] ∧ Is K B.at_ F (toD q) v0 ∧ Is K B.at_ F (toD st) w1) cf1 (evi_range1 rfl T.n_range ev_int) (evg_name (i := 2) sc__law_by_zero.nd rfl (.inl rfl))
    (mb := fun way st nxt => fun N Q E => (0 ≤ way ∧ way < 3) ∧ nxt (st + 1) N Q E) (k := fun st => M.pure (decide (st = 3))) ?_ ⟨v1, _, rfl, i0, i1⟩ ?_ ?_ ?_ hp rfl
  · refine ⟨by decide, ?_⟩
    show (M.forK (fun way st nxt => fun N Q E => (0 ≤ way ∧ way < 3) ∧ nxt (st + 1) N Q E) (fun st => M.pure (decide (st = 3))) [0, 1, 2] (0 : Int) : M Bool) N1 Q E
    exact ⟨by decide, by decide, by decide, hm⟩
  · rintro st σ F H F1 H1 ⟨w1, o2, rfl, i0, i1⟩ g
    exact ⟨w1, o2, rfl, i0.mono g.f, i1.mono g.f⟩
  · rintro way st σ σ1 F2 H2 N2 nxt D' ⟨w1, o2, rfl, i0, i1⟩ ⟨v2, i2, rfl⟩ cf2 ⟨hw, hm2⟩ hD hn hb
    refine sx_try_only (S := Int) (sub := fun y => exT y "ByZero") (mb := fun _ => fun N _ E => E ⟨"ByZero", []⟩ N) (mh := fun _ j => j (st + 1)) (k := nxt) (fun s σ F H => ∃ w1, σ = [some v0, some w1, some v2] ∧ Is K B.at_ F (toD q) v0 ∧ Is K B.at_ F (toD s) w1 ∧ Ex F2 F) cf2 (fun y b e => T.ex e)
      (.inl ⟨rfl, hm2⟩) hD ?_ ?_ ?_ rfl rfl ⟨rfl, rfl, .inl T.g_ByZero⟩
    · intro pn xe j E1 Z1 D2 hpo cf3 hm3 hD2 hj
      refine sxt_if (ka := fun N Q E => E ⟨"ByZero", []⟩ N) (kb := fun N Q E => way ≠ 0 ∧ E ⟨"ByZero", []⟩ N) cf3 (et_eqS (ev_var (x := way) (i := 2) (v := v2) rfl (.inl rfl) rfl i2) ev_int) ?_ (fun N3 F3 H3 hm4 g4 cf4 => ?_) (fun N3 F3 H3 hm4 g4 cf4 => ?_)
      · show (cond (decide (way = 0)) _ _ : M Bool) N2 Q E1
        by_cases h0 : way = 0
        · rw [decide_eq_true h0]; exact hm3
        · rw [decide_eq_false h0]; exact ⟨h0, hm3⟩
      · have i0 := i0.mono g4.f
        exact sxt_expr (k := fun _ => M.bad) cf4 (ev_ratio2 (ratC T) (hr.mono (by decide)) (ev_top T (hr.mono (by decide)) (ev_var (x := q) (i := 0) (v := v0) rfl (.inl rfl) rfl i0)) ev_int) (mkQ_zero hm4) (fun x N5 F5 H5 hm5 g5 cf5 => hm5.elim)
      · have i0 := i0.mono g4.f
        refine sxt_expr (k := fun _ => M.bad) cf4 (ev_qmeth (ok_q_over T kk hq) T.q_cl (hr.mono (by decide)) (by decide) (by decide) (fun _ _ => rfl) (ev_var (x := q) (i := 0) (v := v0) rfl (.inl rfl) rfl i0) (eva_cons (ev_ix (ev_lstA (evl_cons (ev_toD ev_int) (evl_cons (ev_toD (ev_ratio2 (ratC T) (hr.mono (by decide)) ev_int ev_int)) (evl_nil (α := D))))) (ev_sub (ev_var (x := way) (i := 2) (v := v2) rfl (.inl rfl) rfl i2) ev_int)) eva_nil)) ?_ (fun x N5 F5 H5 hm5 g5 cf5 => hm5.elim)
        have hw2 : way = 1 ∨ way = 2 := by
          have := hm4.1
          omega
        have e0 : Rat.divInt 0 5 = 0 := Rat.zero_divInt _
        refine mkQ_ne (by decide) (by unfold SzQ; decide) ?_
        refine ⟨by decide, ?_⟩
        rcases hw2 with rfl | rfl
        · exact ⟨.int 0, rfl, ⟨sz, sz_zero⟩, hm4.2⟩
        · refine ⟨.rat (Rat.divInt 0 5), rfl, ?_⟩
          show (M.ask (Sz q ∧ Sz (Rat.divInt 0 5)) _ : M Rat) N3 _ _
          rw [e0]
          exact ⟨⟨sz, sz_zero⟩, hm4.2⟩
    · intro a oe cls d pn er N3 F3 H3 j D2 ie hz hfl g3 na hs cf3 hm3 hD2 hj
      have i0 := i0.mono g3.f
      have i1 := i1.mono g3.f
      refine sx_asg (i := 1) (k := fun z => j z) cf3 (ev_add (ev_var (x := st) (i := 1) (v := w1) rfl (.inl rfl) rfl i1) ev_int) hm3 (fun z N4 v4 F4 H4 hm4 g4 cf4 i4 => sx_nil ?_) sc__law_by_zero.nd rfl (.inl rfl)
      exact hj z _ F4 H4 N4 ⟨v4, rfl, i0.mono g4.f, i4, g3.f.trans g4.f⟩ g4 cf4.b hm4
    · rintro s σ F4 H4 N4 ⟨w4, rfl, i0, i1, ef⟩ cf4 hm4
      exact sx_nil (hn s _ F4 H4 N4 ⟨w4, _, rfl, i0, i1⟩ ef cf4 hm4).1
  · rintro st σ F H N ⟨w1, o2, rfl, i0, i1⟩ cf hm
    exact sx_ret cf (ev_eqS (ev_var (x := st) (i := 1) (v := w1) rfl (.inl rfl) rfl i1) ev_int) hm rfl
/-! ### _law_refused -/
def refM (kn : Str → Bool) (p : D × Unit) : M Bool := M.ask (okD kn p.1 = true ∧ isNumB p.1 = false ∧ repOk p.1 = true) (M.pure true)
theorem ok_refused (T : TF K mg h) (kk : Kn K kn) (hq : kn "Ratio" = true) : OkG P w K mg base B 6 (He.ga K "_law_refused") ["_law_thing"] encD (refM kn) := by
  obtain ⟨fd, Fd⟩ := T.f__law_refused
  refine ⟨fd, ?_, Fd.bindsN fun _ _ _ _ _ _ us hl => match us, hl with | [_], _ => rfl, Fd.kp⟩
  refine fn_mirG Fd sc__law_refused (fun _ => rfl) ?_
  intro X ⟨d, _⟩ vs F H n Q E R Z cdv A outer s hX hG hr hi hm cf hp
  obtain ⟨v0, r0, rfl, i0, hi⟩ := hi
  have hr1 : r0 = [] := hi
  have hU : X.A.units + 200 < cLine := by
    have := hr.un
    omega
  subst hr1 hX
  obtain ⟨⟨h1, h2, h3⟩, hm⟩ : (okD kn d = true ∧ isNumB d = false ∧ repOk d = true) ∧ Q true n := hm
  have has : ∀ (N : Nat) (Q : Rat → Nat → Prop) (E : Err → Nat → Prop), E ⟨"BadNumber", [("given", d)]⟩ N → asQ kn d N Q E := by
    intro N Q E he
    cases d with
    | int i => cases h2
    | rat q => cases h2
    | _ => exact ⟨h1, he⟩
  refine sx_try_as (S := Unit) (i := 1) (sub := fun y => exT y "BadNumber") (mb := fun _ => fun N _ E => E ⟨"BadNumber", [("given", d)]⟩ N) (mh := fun er _ => fun N Q _ => er = ⟨"BadNumber", [("given", d)]⟩ ∧ Q true N) (k := fun _ => M.bad) (fun _ _ _ _ => False) cf (fun y b e => T.ex e)
      (.inl ⟨rfl, rfl, hm⟩) rfl ?_ ?_ ?_ rfl rfl sc__law_refused.nd rfl rfl ⟨rfl, rfl, .inl T.g_BadNumber⟩
  · intro pn xe j E1 Z1 D2 hpo cf3 hm3 hD2 hj
    exact sxt_expr (k := fun _ => M.bad) cf3 (ev_callO (ok_as_ratio T kk hq) (hr.mono (by decide)) rfl T.g_as_ratio (eva_cons (ev_var (x := d) (i := 0) (v := v0) rfl (.inl rfl) rfl i0) eva_nil)) (has _ _ _ hm3) (fun x N5 F5 H5 hm5 g5 cf5 => hm5.elim)
  · intro a oe cls dd pn er N3 F3 H3 j D2 ie hz hfl g3 na hs cf3 hm3 hD2 hj
    have i0 := i0.mono g3.f
    obtain ⟨e1, hm3⟩ := hm3
    subst e1
    refine sx_ret cf3 (ev_eqS (ev_repr hG hU rfl T.n_repr (ev_xf (er := ⟨"BadNumber", [("given", d)]⟩) (i := 1) T.xf_BadNumber T.na_BadNumber_given ie rfl hz hfl rfl (.inl rfl) rfl)) (ev_repr hG hU rfl T.n_repr (ev_var (x := d) (i := 0) (v := v0) rfl (.inl rfl) rfl i0))) ?_ hD2
    refine ⟨h3, h3, ?_⟩
    have e : decide (shownD d = shownD d) = true := decide_eq_true rfl
    show Q (decide (shownD d = shownD d)) N3
    rw [e]
    exact hm3
  · intro s σ F H N r
    exact r.elim
end
end L3

set_option Elab.async false
set_option linter.all false
set_option maxRecDepth 100000
set_option maxHeartbeats 8000000
set_option exponentiation.threshold 10000
/-! The law. -/
namespace L3
open PySem PySem.Spec PyProof.Rows L2 ToD
/-! ### what is drawn -/
theorem whole_any {N : Nat} {Q : Int → Nat → Prop} {E : Err → Nat → Prop} (hN : N + 2 < 2 ^ 40) (h : ∀ z, sm 100 z → Q z (N + 2)) : wholeM N Q E := by
  refine ⟨by decide, by decide, by omega, fun r r0 r1 => ?_⟩
  have hr : r = 0 ∨ r = 1 ∨ r = 2 ∨ r = 3 ∨ r = 4 := by omega
  have go : ∀ big : Int, 0 ≤ big → big < 2 ^ 99 → drawM (2 * big + 1) (N + 1) (fun z N => Q (z - big) N) E := fun big b0 b1 => by
    refine ⟨by omega, ?_, by omega, fun z z0 z1 => h _ ?_⟩
    · refine (Nat.log2_lt (by omega)).mpr (Nat.lt_of_lt_of_le (by omega : (2 * big + 1).natAbs < 2 ^ 100) (Nat.pow_le_pow_right (by decide) (by decide)))
    · unfold sm
      omega
  rcases hr with rfl | rfl | rfl | rfl | rfl
  · exact ⟨3, rfl, go 3 (by decide) (by decide)⟩
  · exact ⟨12, rfl, go 12 (by decide) (by decide)⟩
  · exact ⟨100, rfl, go 100 (by decide) (by decide)⟩
  · exact ⟨_, rfl, go _ (by decide) (by decide)⟩
  · exact ⟨_, rfl, go _ (by decide) (by decide)⟩
theorem qEq_pure {kn : Str → Bool} (q : Rat) (d : D) (N : Nat) (Q : Bool → Nat → Prop) (E : Err → Nat → Prop) (h : leftOk d = true) (k : Q (eqD q d) N) : qEq kn (q, d, ()) N Q E := by
  refine ⟨?_, k⟩
  cases d <;> first | rfl | cases h
/-! ### sums -/
theorem sum1 {kn : Str → Bool} {acc q : Rat} {d : D} {ds : List D} {N : Nat} {Q : Rat → Nat → Prop} {E : Err → Nat → Prop} (ho : numIs d q) (s1 : Sz acc) (s2 : Sz q) (h : sumD kn (acc + q) ds N Q E) : sumD kn acc (d :: ds) N Q E :=
  ⟨ho.num, ho.as ⟨⟨s1, s2⟩, h⟩⟩
theorem sz_of {q : Rat} {t b : Int} (hb : b ≠ 0) (h : q = Rat.divInt t b) {k : Nat} (h1 : sm k t) (h2 : sm k b) (hk : k ≤ 4000 := by decide) : Sz q := h ▸ sm.sz hb h1 h2 hk
theorem int_div (i : Int) : (i : Rat) = Rat.divInt i 1 := (q_int i).symm
theorem sm1 : sm 100 1 := by unfold sm; decide
theorem sm.log {b : Int} (h : sm 100 b) : b.natAbs.log2 < 9000 := by
  by_cases h0 : b.natAbs = 0
  · rw [h0]; decide
  · exact (Nat.log2_lt h0).mpr (Nat.lt_trans h (Nat.pow_lt_pow_right (by decide) (by decide)))
theorem whole_eq {one : Rat} {a b : Int} (hb : b ≠ 0) (h : one = Rat.divInt a b) : decide (one = Rat.divInt a 1) = (decide (a.fmod b = 0) && decide (a.fdiv b = a)) := by
  rw [← Bool.decide_and, decide_eq_decide, h, Rat.divInt_eq_divInt_iff hb (by decide), Int.mul_one]
  have e := Int.fmod_def a b
  constructor
  · intro k
    by_cases h0 : a = 0
    · subst h0
      exact ⟨Int.zero_fmod b, Int.zero_fdiv b⟩
    · have hb1 : b = 1 := by
        have : a * b = a * 1 := by rw [Int.mul_one]; exact k.symm
        exact Int.eq_of_mul_eq_mul_left h0 this
      subst hb1
      exact ⟨Int.fmod_one a, Int.fdiv_one a⟩
  · rintro ⟨k1, k2⟩
    rw [k1, k2, Int.mul_comm] at e
    omega
def lawM (p : List Int × Unit) : M Bool := M.ask (p.1.length ≤ 63) (fun N Q E => ∀ N', Q true N')
def turnM (k : Int) (st : Unit) (nxt : Unit → M Bool) : M Bool := fun N Q E => (0 ≤ k ∧ k < 2 ^ 40) ∧ ∀ N', nxt st N' Q E
theorem turns : ∀ (xs : List Int), (∀ x ∈ xs, 0 ≤ x ∧ x < 2 ^ 40) → ∀ (N : Nat) (Q : Bool → Nat → Prop) (E : Err → Nat → Prop), (∀ N', Q true N') → M.forK turnM (fun _ => fun N Q E => ∀ N', Q true N') xs () N Q E
  | [], _, N, Q, E, h => h
  | x :: xs, hx, N, Q, E, h => ⟨hx x (by simp), fun N' => turns xs (fun y hy => hx y (by simp [hy])) N' Q E h⟩
def refOk (d : D) : Bool := (tagOf d).isSome && (!isNumB d && repOk d)
theorem lc_none {kn : Str → Bool} {N : Nat} {E : Err → Nat → Prop} : ∀ (ds : List D) (Q : List D → Nat → Prop), ds.all refOk = true → Q [] N → M.lc (fun x : D => M.bind (M.bind (M.bind (M.pure x) fun x => M.bind (M.pure ()) fun y => M.pure (x, y)) (refM kn)) fun b => M.pure (!b)) (fun x : D => M.pure x) ds N Q E
  | [], Q, _, h => h
  | d :: ds, Q, ha, h => by
    obtain ⟨h1, h2⟩ := Bool.and_eq_true_iff.mp (show (refOk d && ds.all refOk) = true from by rw [← List.all_cons]; exact ha)
    obtain ⟨h3, h4⟩ := Bool.and_eq_true_iff.mp h1
    obtain ⟨h5, h6⟩ := Bool.and_eq_true_iff.mp h4
    have hok : okD kn d = true := by
      cases d <;> first | exact h3 | cases h3
    refine And.intro ⟨hok, by simpa using h5, h6⟩ ?_
    exact lc_none ds Q h2 h
section
variable {P : Program} {w : World} {K : PySem.W.Frag} {mg : Str → Option Value} {base h : Heap} {kn : Str → Bool}
theorem ok_law (T : TF K mg h) (kk : Kn K kn) (hq : kn "Ratio" = true) {fd : FuncData} (Fd : FunD K "law" "law" (defArgs d_law) (defBody d_law) (defScope d_law) [] [] ((atG "law") K) fd) : FnOkG P w K mg base 9 (He.ga K "law") fd ["_law_script"] (spM K noBox encS lawM) := by
  refine fn_mirG Fd sc_law (fun _ => rfl) ?_
  intro X ⟨ns, _⟩ vs F H n Q E R Z cdv A outer s hX hG hr hi hm cf hp
  obtain ⟨v0, r0, rfl, i0, hi⟩ := hi
  have hr1 : r0 = [] := hi
  have hU : X.A.units + 200 < cLine := by
    have := hr.un
    omega
  have hc : X.calm = true := by rw [hX]; rfl
  have inD : ∀ q d N Q E, leftOk d = true → Q (eqD q d) N → qEq kn (q, d, ()) N Q E := fun q d N Q E => qEq_pure q d N Q E
  subst hr1 hX
  obtain ⟨hlen, hm⟩ : ns.length ≤ 63 ∧ ∀ N', Q true N' := hm
  refine sx_for (S := Unit) (fun st σ F H => ∃ o1 o2 o3 o4 o5 o6 o7 o8 o9 o10, σ = [some v0, o1, o2, o3, o4, o5, o6, o7, o8, o9, o10] ∧ Is K none F (toD (Scr.mk ns)) v0) cf (evi_range1 rfl T.n_range (ev_max2 hc rfl T.n_max ev_int (ev_min2 hc rfl T.n_min ev_int (ev_len rfl T.n_len (ev_var (x := (Scr.mk ns)) (i := 0) (v := v0) rfl (.inl rfl) rfl i0))))) (evg_name (i := 1) sc_law.nd rfl (.inl rfl))
    (mb := turnM) (k := fun _ => fun N Q E => ∀ N', Q true N') (st := ()) ?_ ⟨_, _, _, _, _, _, _, _, _, _, rfl, i0⟩ ?_ ?_ ?_ hp rfl
  · refine ⟨trivial, ?_, turns _ (fun x hx => ?_) _ Q E hm⟩
    · show -(2 ^ 62) ≤ maxI 2 (minI 12 (ns.length : Int)) ∧ maxI 2 (minI 12 (ns.length : Int)) < 2 ^ 62
      unfold maxI minI
      constructor <;> (repeat' split) <;> omega
    · obtain ⟨j, hj⟩ := List.getElem?_of_mem hx
      have e := rangeI_get hj
      have hl : j < (rangeI (maxI 2 (minI 12 (ns.length : Int)))).length := (List.getElem?_eq_some_iff.mp hj).1
      rw [rangeI_len] at hl
      have : maxI 2 (minI 12 (ns.length : Int)) ≤ 12 := by
        unfold maxI minI
        (repeat' split) <;> omega
      omega
  · rintro st σ F H F1 H1 ⟨o1, o2, o3, o4, o5, o6, o7, o8, o9, o10, rfl, i0⟩ g
    exact ⟨_, _, _, _, _, _, _, _, _, _, rfl, i0.mono g.f⟩
  · rintro k st σ σ1 F2 H2 N2 nxt D' ⟨o1, o2, o3, o4, o5, o6, o7, o8, o9, o10, rfl, i0⟩ ⟨vk, ik, rfl⟩ cf2 ⟨hk, hm2⟩ hD hn hb
    have evk : vk = .int k := ik
    subst evk
    obtain ⟨fdb, Fb, bb, kb⟩ := ok_box (P := P) (w := w) (base := base) T
    refine sx_box (i := 2) (is_ := 0) (ik := 1) (s := Scr.mk ns) cf2 Fb bb kb (hr.mono (by decide)) rfl T.g__law_box rfl (.inl rfl) rfl (.inl rfl) rfl rfl i0 hk.1 hk.2 (fun p H3 c0 c1 e3 np3 f3 cf3 => ?_) sc_law.nd rfl (.inl rfl)
    have iB : Is K (bxB p).at_ F2 (toD BoxT.mk) (.ref p) := ⟨p, rfl, rfl⟩
    refine sx_tup4 (i0 := 3) (i1 := 4) (i2 := 5) (i3 := 6) (enc := fun x : Int × Int × Int × Int × Unit => [toD x.1, toD x.2.1, toD x.2.2.1, toD x.2.2.2.1]) (k := fun x => fun N' _ _ => sm 100 x.1 ∧ sm 100 x.2.1 ∧ sm 100 x.2.2.1 ∧ sm 100 x.2.2.2.1) cf3
      (eva_cons (ev_callO (ok_whole T p) (hr.mono (by decide)) rfl T.g__law_whole (eva_cons (ev_var (x := BoxT.mk) (i := 2) (v := (.ref p)) rfl (.inl rfl) rfl iB) eva_nil)) (eva_cons (ev_callO (ok_whole T p) (hr.mono (by decide)) rfl T.g__law_whole (eva_cons (ev_var (x := BoxT.mk) (i := 2) (v := (.ref p)) rfl (.inl rfl) rfl iB) eva_nil)) (eva_cons (ev_callO (ok_whole T p) (hr.mono (by decide)) rfl T.g__law_whole (eva_cons (ev_var (x := BoxT.mk) (i := 2) (v := (.ref p)) rfl (.inl rfl) rfl iB) eva_nil)) (eva_cons (ev_callO (ok_whole T p) (hr.mono (by decide)) rfl T.g__law_whole (eva_cons (ev_var (x := BoxT.mk) (i := 2) (v := (.ref p)) rfl (.inl rfl) rfl iB) eva_nil)) eva_nil)))) ?_ (fun _ => rfl) (fun x N4 va vb' vc vd' F4 H4 hm4 g4 cf4 il => ?_) rfl sc_law.nd rfl rfl rfl rfl rfl rfl rfl rfl
    · refine whole_any (by decide) fun a ha => ?_
      refine whole_any (by decide) fun b hb => ?_
      refine whole_any (by decide) fun c hc => ?_
      refine whole_any (by decide) fun d hd => ⟨ha, hb, hc, hd⟩
    obtain ⟨a, b0, c, d0, u⟩ := x
    obtain ⟨sa, sb0, sc, sd0⟩ : sm 100 a ∧ sm 100 b0 ∧ sm 100 c ∧ sm 100 d0 := hm4
    obtain ⟨w0, r0, e0, ia, il⟩ := il
    cases e0
    obtain ⟨w1, r1, e0, ib0, il⟩ := il
    cases e0
    obtain ⟨w2, r2, e0, ic, il⟩ := il
    cases e0
    obtain ⟨w3, r3, e0, id0, il⟩ := il
    cases e0
    refine sx_par (i := 4) (j := 6) (k := fun b d => fun N' _ _ => b ≠ 0 ∧ d ≠ 0 ∧ sm 100 b ∧ sm 100 d) cf4 (ev_if (et_neS (ev_var (x := b0) (i := 4) (v := vb') rfl (.inl rfl) rfl ib0) ev_int) (ev_var (x := b0) (i := 4) (v := vb') rfl (.inl rfl) rfl ib0) ev_int) (ev_if (et_neS (ev_var (x := d0) (i := 6) (v := vd') rfl (.inl rfl) rfl id0) ev_int) (ev_var (x := d0) (i := 6) (v := vd') rfl (.inl rfl) rfl id0) (ev_neg ev_int)) ?_ (fun b d N5 vb vd F5 H5 hm5 g5 cf5 ib id => ?_) rfl sc_law.nd rfl rfl (by decide) rfl rfl rfl
    · have s7 : sm 100 7 := by unfold sm; decide
      have s3 : sm 100 (-3) := by unfold sm; decide
      show (cond (!decide (b0 = 0)) (M.pure b0) (M.pure 7) : M Int) N4 (fun b N => (cond (!decide (d0 = 0)) (M.pure d0) (M.pure (-3)) : M Int) N (fun d N' => b ≠ 0 ∧ d ≠ 0 ∧ sm 100 b ∧ sm 100 d) (fun _ _ => False)) (fun _ _ => False)
      by_cases hb : b0 = 0
      · rw [decide_eq_true hb]
        by_cases hd : d0 = 0
        · rw [decide_eq_true hd]
          exact ⟨by decide, by decide, s7, s3⟩
        · rw [decide_eq_false hd]
          exact ⟨by decide, hd, s7, sd0⟩
      · rw [decide_eq_false hb]
        by_cases hd : d0 = 0
        · rw [decide_eq_true hd]
          exact ⟨hb, by decide, sb0, s3⟩
        · rw [decide_eq_false hd]
          exact ⟨hb, hd, sb0, sd0⟩
    obtain ⟨hb0, hd0, sb, sd⟩ : b ≠ 0 ∧ d ≠ 0 ∧ sm 100 b ∧ sm 100 d := hm5
    have hbd : b * d ≠ 0 := Int.mul_ne_zero hb0 hd0
    refine sx_par (i := 7) (j := 8) (k := fun q r => fun N' _ _ => q = Rat.divInt a b ∧ r = Rat.divInt c d) cf5 (ev_ratio2 (ratC T) (hr.mono (by decide)) (ev_var (x := a) (i := 3) (v := va) rfl (.inl rfl) rfl ia) (ev_var (x := b) (i := 4) (v := vb) rfl (.inl rfl) rfl ib)) (ev_ratio2 (ratC T) (hr.mono (by decide)) (ev_var (x := c) (i := 5) (v := vc) rfl (.inl rfl) rfl ic) (ev_var (x := d) (i := 6) (v := vd) rfl (.inl rfl) rfl id)) ?_ (fun one other N6 v7 v8 F6 H6 hm6 g6 cf6 i7 i8 => ?_) rfl sc_law.nd rfl rfl (by decide) rfl rfl rfl
    · refine mkQ_ne hb0 (szq_any (Nat.lt_trans sb (Nat.pow_lt_pow_right (by decide) (by decide))) hb0) ?_
      exact mkQ_ne hd0 (szq_any (Nat.lt_trans sd (Nat.pow_lt_pow_right (by decide) (by decide))) hd0) ⟨rfl, rfl⟩
    obtain ⟨h7, h8⟩ : one = Rat.divInt a b ∧ other = Rat.divInt c d := hm6
    have z1 : Sz one := sz_of hb0 h7 sa sb
    have z2 : Sz other := sz_of hd0 h8 sc sd
    have n2 : numIs (.rat other) (Rat.divInt c d) := .inl (by rw [h8])
    have n3 : numIs (.int c) (Rat.divInt c 1) := .inr ⟨c, rfl, q_int c⟩
    have zc : Sz (Rat.divInt c 1) := sm.sz (by decide) sc (by unfold sm; decide : sm 100 1)
    have za : Sz (Rat.divInt a 1) := sm.sz (by decide) sa (by unfold sm; decide : sm 100 1)
    refine sx_if (ka := M.bad) (kb := fun _ _ _ => True) cf6 (et_or (et_not (et_val (ev_callO (ok_is T kk hq) (hr.mono (by decide)) rfl T.g__law_is (eva_cons (ev_var (x := one) (i := 7) (v := v7) rfl (.inl rfl) rfl i7) (eva_cons (ev_var (x := a) (i := 3) (v := va) rfl (.inl rfl) rfl ia) (eva_cons (ev_var (x := b) (i := 4) (v := vb) rfl (.inl rfl) rfl ib) eva_nil)))))) (fun _ => (et_or1 (et_not (et_val (ev_callO (ok_reckoned T kk hq) (hr.mono (by decide)) rfl T.g__law_reckoned (eva_cons (ev_var (x := one) (i := 7) (v := v7) rfl (.inl rfl) rfl i7) (eva_cons (ev_var (x := a) (i := 3) (v := va) rfl (.inl rfl) rfl ia) (eva_cons (ev_var (x := b) (i := 4) (v := vb) rfl (.inl rfl) rfl ib) (eva_cons (ev_toD (ev_var (x := other) (i := 8) (v := v8) rfl (.inl rfl) rfl i8)) (eva_cons (ev_var (x := c) (i := 5) (v := vc) rfl (.inl rfl) rfl ic) (eva_cons (ev_var (x := d) (i := 6) (v := vd) rfl (.inl rfl) rfl id) eva_nil)))))))))))) ?_ (fun N7 F7 H7 hm7 g7 cf7 => hm7.elim) (fun N7 F7 H7 hm7 g7 cf7 => sx_nil ?_)
    · exact isM_true hb0 sa.mono sb.mono h7 ⟨⟨hb0, hd0, sa.mono, sb.mono, sc.mono, sd.mono, h7, n2⟩, trivial⟩
    have i7 := i7.mono g7.f
    have i8 := i8.mono g7.f
    refine sx_if (ka := M.bad) (kb := fun _ _ _ => True) cf7 (et_or (et_not (et_val (ev_callO (ok_reckoned T kk hq) (hr.mono (by decide)) rfl T.g__law_reckoned (eva_cons (ev_var (x := one) (i := 7) (v := v7) rfl (.inl rfl) rfl i7) (eva_cons (ev_var (x := a) (i := 3) (v := va) rfl (.inl rfl) rfl ia) (eva_cons (ev_var (x := b) (i := 4) (v := vb) rfl (.inl rfl) rfl ib) (eva_cons (ev_toD (ev_var (x := c) (i := 5) (v := vc) rfl (.inl rfl) rfl ic)) (eva_cons (ev_var (x := c) (i := 5) (v := vc) rfl (.inl rfl) rfl ic) (eva_cons ev_int eva_nil))))))))) (fun _ => (et_or1 (et_neS (ev_qcmp (fun _ _ => rfl) (ok_q_eq T kk hq) T.q_cmp (hr.mono (by decide)) (ev_var (x := one) (i := 7) (v := v7) rfl (.inl rfl) rfl i7) (ev_var (x := a) (i := 3) (v := va) rfl (.inl rfl) rfl ia) (fun _ => cmpOk_int) (nomark _)) (ev_and (ev_eqS (ev_mod (ev_var (x := a) (i := 3) (v := va) rfl (.inl rfl) rfl ia) (ev_var (x := b) (i := 4) (v := vb) rfl (.inl rfl) rfl ib)) ev_int) (ev_one (ev_eqS (ev_fdiv (ev_var (x := a) (i := 3) (v := va) rfl (.inl rfl) rfl ia) (ev_var (x := b) (i := 4) (v := vb) rfl (.inl rfl) rfl ib)) (ev_var (x := a) (i := 3) (v := va) rfl (.inl rfl) rfl ia)))))))) ?_ (fun N8 F8 H8 hm8 g8 cf8 => hm8.elim) (fun N8 F8 H8 hm8 g8 cf8 => sx_nil ?_)
    · refine ⟨⟨hb0, (by show (1 : Int) ≠ 0; decide), sa.mono, sb.mono, sc.mono, sm1.mono, h7, n3⟩, ?_⟩
      refine qEq_num hq (q := Rat.divInt a 1) (.inr ⟨a, rfl, q_int a⟩) ⟨hb0, ?_⟩
      show (cond (decide (a.fmod b = 0)) (M.ask (CFd a b) (M.pure (decide (a.fdiv b = a)))) (M.pure false) : M Bool) N7 _ _
      by_cases h0 : a.fmod b = 0
      · rw [decide_eq_true h0]
        refine ⟨⟨hb0, sm.log sb⟩, ?_⟩
        show (cond (!decide (decide (one = Rat.divInt a 1) = decide (a.fdiv b = a))) M.bad (fun _ _ _ => True) : M Bool) N7 _ _
        rw [whole_eq hb0 h7, h0]
        simp
      · rw [decide_eq_false h0]
        show (cond (!decide (decide (one = Rat.divInt a 1) = false)) M.bad (fun _ _ _ => True) : M Bool) N7 _ _
        rw [whole_eq hb0 h7, decide_eq_false h0]
        simp
    have i7 := i7.mono g8.f
    have i8 := i8.mono g8.f
    have sw : sm 400 (a * d + c * b * d + c * b) := (((sa.mul sd).mono (k := 300)).add ((sc.mul sb).mul sd)).mono.add ((sc.mul sb).mono (k := 301)) |>.mono
    refine sx_asg (i := 9) (k := fun z => fun N' _ _ => z = a * d + c * b * d + c * b) cf8 (ev_add (ev_add (ev_mul (ev_var (x := a) (i := 3) (v := va) rfl (.inl rfl) rfl ia) (ev_var (x := d) (i := 6) (v := vd) rfl (.inl rfl) rfl id)) (ev_mul (ev_mul (ev_var (x := c) (i := 5) (v := vc) rfl (.inl rfl) rfl ic) (ev_var (x := b) (i := 4) (v := vb) rfl (.inl rfl) rfl ib)) (ev_var (x := d) (i := 6) (v := vd) rfl (.inl rfl) rfl id))) (ev_mul (ev_var (x := c) (i := 5) (v := vc) rfl (.inl rfl) rfl ic) (ev_var (x := b) (i := 4) (v := vb) rfl (.inl rfl) rfl ib))) ⟨sa.cm sd, sc.cm sb, (sc.mul sb).cm sd, sc.cm sb, rfl⟩ (fun z N9 v9 F9 H9 hm9 g9 cf9 i9 => ?_) sc_law.nd rfl (.inl rfl)
    have i7 := i7.mono g9.f
    have i8 := i8.mono g9.f
    have hz : z = a * d + c * b * d + c * b := hm9
    subst hz
    refine sx_if (ka := M.bad) (kb := fun _ _ _ => True) cf9 (et_or (et_not (et_val (ev_callO (ok_is T kk hq) (hr.mono (by decide)) rfl T.g__law_is (eva_cons (ev_callO (ok_total T kk hq) (hr.mono (by decide)) rfl T.g_total (eva_cons (ev_toD (ev_lstA (evl_cons (ev_toD (ev_var (x := one) (i := 7) (v := v7) rfl (.inl rfl) rfl i7)) (evl_cons (ev_toD (ev_var (x := c) (i := 5) (v := vc) rfl (.inl rfl) rfl ic)) (evl_cons (ev_toD (ev_var (x := other) (i := 8) (v := v8) rfl (.inl rfl) rfl i8)) (evl_nil (α := D))))))) eva_nil)) (eva_cons (ev_var (x := (a * d + c * b * d + c * b)) (i := 9) (v := v9) rfl (.inl rfl) rfl i9) (eva_cons (ev_mul (ev_var (x := b) (i := 4) (v := vb) rfl (.inl rfl) rfl ib) (ev_var (x := d) (i := 6) (v := vd) rfl (.inl rfl) rfl id)) eva_nil)))))) (fun _ => (et_or1 (et_not (et_val (ev_callO (ok_is T kk hq) (hr.mono (by decide)) rfl T.g__law_is (eva_cons (ev_callO (ok_total T kk hq) (hr.mono (by decide)) rfl T.g_total (eva_cons (ev_toD (ev_lstA (evl_nil (α := D)))) eva_nil)) (eva_cons ev_int (eva_cons ev_int eva_nil))))))))) ?_ (fun N10 F10 H10 hm10 g10 cf10 => hm10.elim) (fun N10 F10 H10 hm10 g10 cf10 => sx_nil ?_)
    · have e1 : (0 : Rat) + one = Rat.divInt a b := by rw [Rat.zero_add]; exact h7
      have e2 : (0 : Rat) + one + Rat.divInt c 1 = Rat.divInt (a * 1 + c * b) (b * 1) := by rw [e1]; exact Rat.divInt_add_divInt _ _ hb0 (by decide)
      have e3 : (0 : Rat) + one + Rat.divInt c 1 + other = Rat.divInt ((a * 1 + c * b) * d + c * (b * 1)) (b * 1 * d) := by rw [e2, h8]; exact Rat.divInt_add_divInt _ _ (by rw [Int.mul_one]; exact hb0) hd0
      rw [Int.mul_one, Int.mul_one] at e2
      rw [Int.mul_one, Int.mul_one, Int.add_mul] at e3
      refine ⟨(by show 3 ≤ 1000; decide), ?_⟩
      refine sum1 (q := one) (d := .rat one) (.inl rfl) sz_zero z1 (sum1 (q := Rat.divInt c 1) (d := .int c) n3 (sz_of hb0 e1 sa sb) zc (sum1 (q := other) (d := .rat other) (.inl rfl) (sz_of hb0 e2 ((sa.mono (k := 200)).add (sc.mul sb)) (sb.mono (k := 201))) z2 ?_))
      refine And.intro (sb.cm sd) (isM_true hbd sw.mono (sb.mul sd).mono e3 ?_)
      refine And.intro (by show 0 ≤ 1000; decide) ?_
      exact isM_true (by decide) (sm.mono (j := 100) (by unfold sm; decide)) sm1.mono (Rat.zero_divInt 1).symm trivial
    have i7 := i7.mono g10.f
    have i8 := i8.mono g10.f
    refine sx_if (ka := M.bad) (kb := fun _ _ _ => True) cf10 (et_or (et_not (et_val (ev_callO (ok_is T kk hq) (hr.mono (by decide)) rfl T.g__law_is (eva_cons (ev_callO (ok_total T kk hq) (hr.mono (by decide)) rfl T.g_total (eva_cons (ev_toD (ev_lstA (evl_cons (ev_toD (ev_var (x := c) (i := 5) (v := vc) rfl (.inl rfl) rfl ic)) (evl_cons (ev_toD (ev_var (x := one) (i := 7) (v := v7) rfl (.inl rfl) rfl i7)) (evl_nil (α := D)))))) eva_nil)) (eva_cons (ev_add (ev_mul (ev_var (x := c) (i := 5) (v := vc) rfl (.inl rfl) rfl ic) (ev_var (x := b) (i := 4) (v := vb) rfl (.inl rfl) rfl ib)) (ev_var (x := a) (i := 3) (v := va) rfl (.inl rfl) rfl ia)) (eva_cons (ev_var (x := b) (i := 4) (v := vb) rfl (.inl rfl) rfl ib) eva_nil)))))) (fun _ => (et_or1 (et_not (et_val (ev_callO (ok_is T kk hq) (hr.mono (by decide)) rfl T.g__law_is (eva_cons (ev_callO (ok_total T kk hq) (hr.mono (by decide)) rfl T.g_total (eva_cons (ev_toD (ev_lstA (evl_cons (ev_var (x := c) (i := 5) (v := vc) rfl (.inl rfl) rfl ic) (evl_cons (ev_var (x := a) (i := 3) (v := va) rfl (.inl rfl) rfl ia) (evl_nil (α := Int)))))) eva_nil)) (eva_cons (ev_add (ev_var (x := c) (i := 5) (v := vc) rfl (.inl rfl) rfl ic) (ev_var (x := a) (i := 3) (v := va) rfl (.inl rfl) rfl ia)) (eva_cons ev_int eva_nil))))))))) ?_ (fun N11 F11 H11 hm11 g11 cf11 => hm11.elim) (fun N11 F11 H11 hm11 g11 cf11 => sx_nil ?_)
    · have e1 : (0 : Rat) + Rat.divInt c 1 = Rat.divInt c 1 := Rat.zero_add _
      have e2 : (0 : Rat) + Rat.divInt c 1 + one = Rat.divInt (c * b + a * 1) (1 * b) := by rw [e1, h7]; exact Rat.divInt_add_divInt _ _ (by decide) hb0
      have e3 : (0 : Rat) + Rat.divInt c 1 + Rat.divInt a 1 = Rat.divInt (c * 1 + a * 1) (1 * 1) := by rw [e1]; exact Rat.divInt_add_divInt _ _ (by decide) (by decide)
      rw [Int.mul_one, Int.one_mul] at e2
      rw [Int.mul_one, Int.mul_one, Int.mul_one] at e3
      refine ⟨(by show 2 ≤ 1000; decide), ?_⟩
      refine sum1 (q := Rat.divInt c 1) (d := .int c) n3 sz_zero zc (sum1 (q := one) (d := .rat one) (.inl rfl) (by rw [e1]; exact zc) z1 ?_)
      refine ⟨sc.cm sb, isM_true hb0 (((sc.mul sb).add (sa.mono (k := 200))).mono) sb.mono e2 ?_⟩
      refine And.intro (by show 2 ≤ 1000; decide) ?_
      refine sum1 (q := Rat.divInt c 1) (d := .int c) n3 sz_zero zc (sum1 (q := Rat.divInt a 1) (d := .int a) (.inr ⟨a, rfl, q_int a⟩) (by rw [e1]; exact zc) za ?_)
      exact isM_true (by decide) (sc.add sa).mono sm1.mono e3 trivial
    have i7 := i7.mono g11.f
    have i8 := i8.mono g11.f
    refine sx_if (ka := M.bad) (kb := fun _ _ _ => True) cf11 (et_or (et_not (et_val (ev_callO (ok_is T kk hq) (hr.mono (by decide)) rfl T.g__law_is (eva_cons (ev_callO (ok_total T kk hq) (hr.mono (by decide)) rfl T.g_total (eva_cons (ev_toD (ev_tup1 (ev_var (x := one) (i := 7) (v := v7) rfl (.inl rfl) rfl i7))) eva_nil)) (eva_cons (ev_var (x := a) (i := 3) (v := va) rfl (.inl rfl) rfl ia) (eva_cons (ev_var (x := b) (i := 4) (v := vb) rfl (.inl rfl) rfl ib) eva_nil)))))) (fun _ => (et_or1 (et_not (et_val (ev_callO (ok_by_zero T kk hq) (hr.mono (by decide)) rfl T.g__law_by_zero (eva_cons (ev_var (x := one) (i := 7) (v := v7) rfl (.inl rfl) rfl i7) eva_nil))))))) ?_ (fun N12 F12 H12 hm12 g12 cf12 => hm12.elim) (fun N12 F12 H12 hm12 g12 cf12 => sx_nil ?_)
    · have e1 : (0 : Rat) + one = Rat.divInt a b := by rw [Rat.zero_add]; exact h7
      refine sum1 (q := one) (d := .rat one) (.inl rfl) sz_zero z1 ?_
      exact isM_true hb0 sa.mono sb.mono e1 ⟨z1, trivial⟩
    have i7 := i7.mono g12.f
    have i8 := i8.mono g12.f
    refine sx_if (ka := M.bad) (kb := fun _ _ _ => True) cf12 (et_or (et_qne (ok_q_eq T kk hq) T.q_cmp T.q_ne (hr.mono (by decide)) (ev_callO (ok_as_ratio T kk hq) (hr.mono (by decide)) rfl T.g_as_ratio (eva_cons (ev_toD (ev_var (x := one) (i := 7) (v := v7) rfl (.inl rfl) rfl i7)) eva_nil)) (ev_var (x := one) (i := 7) (v := v7) rfl (.inl rfl) rfl i7) (fun _ => cmpOk_rat)) (fun _ => (et_or (et_not (et_val (ev_callO (ok_is T kk hq) (hr.mono (by decide)) rfl T.g__law_is (eva_cons (ev_kw1 (okk_as_ratio T kk hq) (hr.mono (by decide)) rfl T.g_as_ratio (ev_toD (ev_var (x := c) (i := 5) (v := vc) rfl (.inl rfl) rfl ic)) (fun _ => rfl)) (eva_cons (ev_var (x := c) (i := 5) (v := vc) rfl (.inl rfl) rfl ic) (eva_cons ev_int eva_nil)))))) (fun _ => (et_or1 (et_inQ inD (ok_q_eq T kk hq) T.q_left (hr.mono (by decide)) (ev_var (x := one) (i := 7) (v := v7) rfl (.inl rfl) rfl i7) (ev_lstA (evl_cons (ev_toD ev_non) (evl_cons (ev_toD ev_str) (evl_cons (ev_toD (ev_pair (ev_var (x := a) (i := 3) (v := va) rfl (.inl rfl) rfl ia) (ev_var (x := b) (i := 4) (v := vb) rfl (.inl rfl) rfl ib))) (evl_cons (ev_toD (ev_lstA (evl_cons (ev_var (x := a) (i := 3) (v := va) rfl (.inl rfl) rfl ia) (evl_nil (α := Int))))) (evl_nil (α := D))))))))))))) ?_ (fun N13 F13 H13 hm13 g13 cf13 => hm13.elim) (fun N13 F13 H13 hm13 g13 cf13 => sx_nil ?_)
    · refine qEq_num hq (q := one) (.inl rfl) ?_
      show (cond (!decide (one = one)) (M.pure true) _ : M Bool) N12 _ _
      rw [decide_eq_true rfl]
      refine isM_true (by decide) sc.mono sm1.mono (q_int c).symm ?_
      refine And.intro (by show 1 ≤ 1000; decide) (And.intro (by show 4 ≤ 1000; decide) (And.intro rfl ?_))
      exact trivial
    have G := Gd.unbox e3 np3 (g4.trans (g5.trans (g6.trans (g7.trans (g8.trans (g9.trans (g10.trans (g11.trans (g12.trans g13)))))))))
    exact sx_nil (hn () _ F13 H13 N2 ⟨_, _, _, _, _, _, _, _, _, _, rfl, i0.mono G.f⟩ G.f (cf2.on G Bx.no) (hm2 N2)).1
  · rintro st σ F H N ⟨o1, o2, o3, o4, o5, o6, o7, o8, o9, o10, rfl, i0⟩ cf hm
    refine sx_if (ka := M.bad) (kb := fun _ _ _ => True) cf (et_or (et_inQ inD (ok_q_eq T kk hq) T.q_left (hr.mono (by decide)) (ev_ratio1 (ratC T) (hr.mono (by decide)) ev_int) (ev_lstA (evl_cons (ev_toD ev_bool) (evl_nil (α := D))))) (fun _ => (et_or (et_inQ inD (ok_q_eq T kk hq) T.q_left (hr.mono (by decide)) (ev_ratio1 (ratC T) (hr.mono (by decide)) ev_int) (ev_lstA (evl_cons (ev_toD ev_bool) (evl_nil (α := D))))) (fun _ => (et_or1 (et_not (et_val (ev_callO (ok_is T kk hq) (hr.mono (by decide)) rfl T.g__law_is (eva_cons (ev_ratio2 (ratC T) (hr.mono (by decide)) ev_int ev_int) (eva_cons ev_int (eva_cons ev_int eva_nil))))))))))) ?_ (fun N1 F1 H1 hm1 g1 cf1 => hm1.elim) (fun N1 F1 H1 hm1 g1 cf1 => sx_nil ?_)
    · refine ⟨(by show 1 ≤ 1000; decide), rfl, And.intro (by show 1 ≤ 1000; decide) (And.intro rfl (mkQ_ne (t := 6) (b := 4) (by decide) (by unfold SzQ; decide) ?_))⟩
      refine isM_true (by decide) (sm.mono (j := 100) (by unfold sm; decide)) (sm.mono (j := 100) (by unfold sm; decide)) ?_ trivial
      exact (Rat.divInt_eq_divInt_iff (by decide) (by decide)).mpr (by decide)
    · refine sx_ret cf1 (ev_eqD hU (ev_lcN (i := 10) (mt := fun x : D => M.bind (M.bind (M.bind (M.pure x) fun x => M.bind (M.pure ()) fun y => M.pure (x, y)) (refM kn)) fun b => M.pure (!b)) (me := fun x : D => M.pure x) (evi_list (ev_lstA (evl_cons (ev_toD ev_non) (evl_cons (ev_toD ev_bool) (evl_cons (ev_toD ev_bool) (evl_cons (ev_toD ev_str) (evl_cons (ev_toD ev_str) (evl_cons (ev_toD (ev_lstA (evl_cons ev_int (evl_nil (α := Int))))) (evl_cons (ev_toD (ev_pair ev_int ev_int)) (evl_cons ev_dict0 (evl_nil (α := D)))))))))))) (blkOk_by (N := ["_law_script", "_law_k", "_law_box_here", "_law_a", "_law_b", "_law_c", "_law_d", "_law_one", "_law_other", "_law_whole_here", "_law_thing"]) (sc := defScope d_law) (by decide +kernel)) rfl
        (fun s H C cl fp x v F3 e3 i3 => ets_one (et_not (et_val (ev_callG (by exact ok_refused T kk hq) (by exact hG) (by exact hr.mono (by decide)) rfl T.g__law_refused (eva_cons (ev_var (x := x) (i := 10) (v := v) rfl (.inl rfl) rfl (by exact i3)) eva_nil)))))
        (fun s H C cl fp x v F3 e3 i3 => ev_var (x := x) (i := 10) (v := v) rfl (.inl rfl) rfl (by exact i3)) hc sc_law.nd) (ev_lstA (evl_nil (α := D)))) ?_ rfl
      refine And.intro (by show 1 ≤ 1000; decide) (And.intro (by show 8 ≤ 1000; decide) (And.intro (by show 8 ≤ 1000000; decide) ?_))
      refine lc_none _ _ (by decide +kernel) ?_
      refine And.intro (by show 0 ≤ 1000; decide) (And.intro ⟨by decide +kernel, by decide +kernel⟩ ?_)
      exact hm N1
end
end L3

set_option Elab.async false
set_option linter.all false
set_option maxRecDepth 100000
set_option maxHeartbeats 0
/-! The top's one run. -/
namespace L3
open PySem PySem.Spec PyProof.Rows L2
abbrev R : PySem.W.OpenRow := PySem.W.OpenLaw.row PySem.Challenge.rw_kindsmeet_k02_ratios
abbrev hk : PySem.W.Hook := hookB 5 fa fn
def ob (s : PySem.W.SharedT) : AlB := obsBG 5 fa fn (HandSHeadRun.getT s)
theorem ob_eq (s : PySem.W.SharedT) : ob s = hk.obs s.abs := obsBG_eq (HandSHeadRun.getT_eq s)
theorem run (w : World) : HandSHeadRun.RunEq R (PySem.W.view R.prog [22]) hk ob 6000 names w := by
  intro os
  kernel_rfl
end L3

set_option Elab.async false
set_option linter.all false
set_option maxRecDepth 100000
set_option maxHeartbeats 0
/-! The end. -/
namespace L3
open PySem PySem.Spec PyProof.Rows L2 ToD
def knR (x : Str) : Bool := decide (x = "Ratio")
theorem kn_ok {K : PySem.W.Frag} {mg : Str → Option Value} {h : Heap} (T : TF K mg h) : Kn K knR where
  c := fun C e => by
    have e2 : C = "Ratio" := of_decide_eq_true e
    subst e2
    exact T.k_Ratio
  apart := fun C C' e e' ne => absurd ((of_decide_eq_true e : C = "Ratio").trans (of_decide_eq_true e' : C' = "Ratio").symm) ne
theorem fa_eq {K : PySem.W.Frag} {mg : Str → Option Value} {h : Heap} {fa : Addr} (T : TF K mg h) (e : mg "law" = some (.ref fa)) : fa = He.ga K "law" := by
  have e2 := e.symm.trans T.g_law
  cases e2
  rfl
end L3
open PySem PySem.W PySem.Calls PyProof.Rows
theorem PySem.Challenge.cw_kindsmeet_k02_ratios_holds : PySem.Challenge.rw_kindsmeet_k02_ratios.Holds := by
  w_on; o_law
  refine HandSHeadRun.head_any (r := OpenLaw.row PySem.Challenge.rw_kindsmeet_k02_ratios) (q := view (OpenLaw.row PySem.Challenge.rw_kindsmeet_k02_ratios).prog [22]) (H := L3.hk) (ob := L3.ob) (M := 6000) (loose := L3.names) (d := HandSHeadRun.topDef (OpenLaw.row PySem.Challenge.rw_kindsmeet_k02_ratios).prog 22) (kwd := []) L3.ob_eq
    (by kernel_rfl) (fun s => by kernel_rfl) L3.run (by kernel_rfl) (by kernel_rfl) (by kernel_rfl) (by rfl) (by first | assumption | decide +kernel) (by decide +kernel) ⟨rfl, rfl, rfl, rfl, rfl, by decide +kernel⟩ ?hw ?hc
  case hw => w_witness2
  case hc =>
    refine L3.walk_G (l := PySem.Challenge.rw_kindsmeet_k02_ratios) (n := 63) (k := 9) (x := "_law_script") (mir := L3.lawM) rfl (by decide) (by kernel_rfl) ⟨rfl, by decide, by decide⟩ ?Fo (fun ns hl => ⟨hl, fun _ => rfl⟩)
    intro w mg fa h Y G hmg0
    obtain ⟨K, KX, c⟩ := Y
    have T : L3.TF K mg h := ⟨KX, G, c⟩
    have hmg : mg ("law" : PySem.Str) = some (.ref fa) := by
      have e : (HandSHeadRun.topDef (OpenLaw.row PySem.Challenge.rw_kindsmeet_k02_ratios).prog 22).name = ("law" : PySem.Str) := by kernel_rfl
      rw [← e]
      exact hmg0
    have efa := L3.fa_eq T hmg
    subst efa
    obtain ⟨fd, Fd⟩ := T.f_law
    have b := Fd.bindsA (ps := ["_law_script"]) fun _ _ _ _ _ _ us hl => match us, hl with | [_], _ => rfl
    exact ⟨K, fd, KX, fun s v => b s [v] rfl, fun base _ _ => L3.ok_law T (L3.kn_ok T) rfl Fd⟩
