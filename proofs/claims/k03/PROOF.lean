import PyProof.Rows.All
import PySem.Challenge.RW_kindsmeet_k03_texts_of_ratios
import Wide.All
import OpenK.AllK
import Wide.FinOn
import HandS.ForMost
import HandS.ForExc
import HandS.Defaults
import HandS.HeadHook1
import HandS.HeadHook2
import HandS.Wide
import HandS.Property
import HandS.ExcField
import HandS.Text
import HandS.StrMore
import HandS.ExcInit
import HandS.ClsMeth
import HandS.IsInst
import HandS.TupMul
import HandS.WideBits
import KE.KOpsOwn
import HandS.Steps
import HandS.Deep
import HandS.Finally
import HandS.More
import HandS.Style
import HandS.TupAny
import HandS.Iter
import HandS.DictComp
import HandS.Small
import HandS.RaiseMore
import HandS.Star
import HandS.FStr
import HandS.TryOnly
import HandS.Ends
import HandS.Head0
import HandS.Head1
import HandS.Head2
import HandS.HeadEnd
set_option Elab.async false
set_option linter.all false
set_option maxRecDepth 100000
set_option maxHeartbeats 4000000
/-! Data, what stands at an address, the cells, the evaluator's monad. -/
namespace L4
open PySem PySem.Spec PyProof.Rows L2

/-! ### data -/
inductive D where
  | scr (ns : List Int) | ty (n : String) | cl (x : Str) | non | bool (b : Bool) | int (i : Int) | str (s : Str)
  | lst (xs : List D) | tup (xs : List D)
  | dK (ks : List Key) (vs : List D)
  | dT (ks : List (List Key)) (vs : List D)
  | ins (C : Str) (ns : List Str) (vs : List D)

mutual
/-- the value v, in the heap F, is the datum -/
def Is (K : PySem.W.Frag) (F : Hp) : D → V → Prop
  | .scr ns, v => ∃ a, v = .ref a ∧ SqL K F a (ns.map V.int)
  | .ty n, v => v = .ty n
  | .cl x, v => v = .ref (He.ga K x)
  | .non, v => v = .non
  | .bool b, v => v = .bl b
  | .int i, v => v = .int i
  | .str s, v => v = .str s
  | .lst ds, v => ∃ a vs, v = .ref a ∧ F a = some (.lst vs) ∧ IsL K F ds vs
  | .tup ds, v => ∃ a vs, v = .ref a ∧ F a = some (.tup vs) ∧ IsL K F ds vs
  | .dK ks ds, v => ∃ a od vs, v = .ref a ∧ F a = some (.frz od (.dK (ks.zip vs))) ∧ ks.length = vs.length ∧ IsL K F ds vs
  | .dT ks ds, v => ∃ a od vs, v = .ref a ∧ F a = some (.frz od (.dT (ks.zip vs))) ∧ ks.length = vs.length ∧ IsL K F ds vs
  | .ins C ns ds, v => ∃ a dx vs, v = .ref a ∧ F a = some (.ins (He.ga K C) dx (ns.zip vs)) ∧ ns.length = vs.length ∧ IsL K F ds vs
def IsL (K : PySem.W.Frag) (F : Hp) : List D → List V → Prop
  | [], vs => vs = []
  | d :: ds, vs => ∃ v r, vs = v :: r ∧ Is K F d v ∧ IsL K F ds r
end

def Ex (H H' : Hp) : Prop := ∀ a o, H a = some o → H' a = some o
theorem Ex.refl (H : Hp) : Ex H H := fun _ _ h => h
theorem Ex.trans {H H1 H2 : Hp} (a : Ex H H1) (b : Ex H1 H2) : Ex H H2 := fun x o h => b x o (a x o h)
theorem Ex.updN {H H' : Hp} {p : Addr} {o : HO} (e : Ex H H') (h : H p = none) : Ex H (L2.upd H' p o) := fun a u ha => by
  rw [upd_ne (ne_of_none ha h)]; exact e a u ha
theorem Ex.new {H : Hp} {p : Addr} {o : HO} (h : H p = none) : Ex H (L2.upd H p o) := (Ex.refl H).updN h
theorem Ex.upd2 {H H' : Hp} {p : Addr} {o : HO} (e : Ex H H') : Ex (L2.upd H p o) (L2.upd H' p o) := fun a u ha => by
  by_cases hp : a = p
  · subst hp; rw [upd_same] at ha ⊢; exact ha
  · rw [upd_ne hp] at ha ⊢; exact e a u ha
theorem Ex.put {H H' : Hp} {p : Addr} {o : HO} (e : Ex H H') (h : H' p = some o) : Ex (L2.upd H p o) H' := fun a u ha => by
  by_cases hp : a = p
  · subst hp; rw [upd_same] at ha; cases ha; exact h
  · rw [upd_ne hp] at ha; exact e a u ha
theorem Ex.none {H H' : Hp} {a : Addr} (e : Ex H H') (h : H' a = none) : H a = none := by
  cases q : H a with
  | none => rfl
  | some o => rw [e a o q] at h; cases h

theorem sqL_mono {K : PySem.W.Frag} {F F' : Hp} {a : Addr} {xs : List V} (e : Ex F F') (h : SqL K F a xs) : SqL K F' a xs := by
  rcases h with h | h
  · rcases h with h | ⟨o, h⟩
    · exact .inl (.inl (e _ _ h))
    · exact .inl (.inr ⟨o, e _ _ h⟩)
  · exact .inr h
mutual
theorem Is.mono {K : PySem.W.Frag} {F F' : Hp} (e : Ex F F') : ∀ {d : D} {v : V}, Is K F d v → Is K F' d v
  | .scr _, _, h => by
    obtain ⟨a, h1, h2⟩ := h
    exact ⟨a, h1, sqL_mono e h2⟩
  | .ty _, _, h => h
  | .cl _, _, h => h
  | .non, _, h => h
  | .bool _, _, h => h
  | .int _, _, h => h
  | .str _, _, h => h
  | .lst ds, _, h => by
    obtain ⟨a, vs, h1, h2, h3⟩ := h
    exact ⟨a, vs, h1, e _ _ h2, IsL.mono e h3⟩
  | .tup ds, _, h => by
    obtain ⟨a, vs, h1, h2, h3⟩ := h
    exact ⟨a, vs, h1, e _ _ h2, IsL.mono e h3⟩
  | .dK ks ds, _, h => by
    obtain ⟨a, od, vs, h1, h2, h3, h4⟩ := h
    exact ⟨a, od, vs, h1, e _ _ h2, h3, IsL.mono e h4⟩
  | .dT ks ds, _, h => by
    obtain ⟨a, od, vs, h1, h2, h3, h4⟩ := h
    exact ⟨a, od, vs, h1, e _ _ h2, h3, IsL.mono e h4⟩
  | .ins C ns ds, _, h => by
    obtain ⟨a, dx, vs, h1, h2, h3, h4⟩ := h
    exact ⟨a, dx, vs, h1, e _ _ h2, h3, IsL.mono e h4⟩
theorem IsL.mono {K : PySem.W.Frag} {F F' : Hp} (e : Ex F F') : ∀ {ds : List D} {vs : List V}, IsL K F ds vs → IsL K F' ds vs
  | [], _, h => h
  | d :: ds, _, h => by
    obtain ⟨v, r, h1, h2, h3⟩ := h
    exact ⟨v, r, h1, Is.mono e h2, IsL.mono e h3⟩
end
theorem IsL.length {K : PySem.W.Frag} {F : Hp} : ∀ {ds : List D} {vs : List V}, IsL K F ds vs → vs.length = ds.length
  | [], _, h => by rw [show _ = [] from h]; rfl
  | d :: ds, _, h => by
    obtain ⟨v, r, h1, h2, h3⟩ := h
    rw [h1, List.length_cons, List.length_cons, IsL.length h3]
theorem IsL.nil {K : PySem.W.Frag} {F : Hp} : IsL K F [] [] := rfl
theorem IsL.cons {K : PySem.W.Frag} {F : Hp} {d : D} {ds : List D} {v : V} {vs : List V} (h : Is K F d v) (h2 : IsL K F ds vs) : IsL K F (d :: ds) (v :: vs) := ⟨v, vs, rfl, h, h2⟩
theorem IsL.get {K : PySem.W.Frag} {F : Hp} : ∀ {ds : List D} {vs : List V} {i : Nat} {d : D}, IsL K F ds vs → ds[i]? = some d → ∃ v, vs[i]? = some v ∧ Is K F d v
  | [], _, _, _, _, e => by simp at e
  | _ :: _, _, 0, _, h, e => by
    obtain ⟨v, r, rfl, h2, h3⟩ := h
    simp at e; subst e
    exact ⟨v, rfl, h2⟩
  | _ :: ds, _, i + 1, d, h, e => by
    obtain ⟨v, r, rfl, h2, h3⟩ := h
    simp at e
    obtain ⟨u, h4, h5⟩ := IsL.get h3 e
    exact ⟨u, by simpa using h4, h5⟩
theorem IsL.append {K : PySem.W.Frag} {F : Hp} : ∀ {ds es : List D} {vs us : List V}, IsL K F ds vs → IsL K F es us → IsL K F (ds ++ es) (vs ++ us)
  | [], _, _, _, h, h2 => by rw [show _ = [] from h]; exact h2
  | d :: ds, _, _, _, h, h2 => by
    obtain ⟨v, r, rfl, h3, h4⟩ := h
    exact ⟨v, r ++ _, rfl, h3, IsL.append h4 h2⟩
theorem IsL.take {K : PySem.W.Frag} {F : Hp} : ∀ (n : Nat) {ds : List D} {vs : List V}, IsL K F ds vs → IsL K F (ds.take n) (vs.take n)
  | 0, _, _, _ => by simp [IsL]
  | n + 1, [], _, h => by rw [show _ = [] from h]; simp [IsL]
  | n + 1, d :: ds, _, h => by
    obtain ⟨v, r, rfl, h3, h4⟩ := h
    exact ⟨v, r.take n, rfl, h3, IsL.take n h4⟩
theorem IsL.drop {K : PySem.W.Frag} {F : Hp} : ∀ (n : Nat) {ds : List D} {vs : List V}, IsL K F ds vs → IsL K F (ds.drop n) (vs.drop n)
  | 0, _, _, h => h
  | n + 1, [], _, h => by rw [show _ = [] from h]; simp [IsL]
  | n + 1, d :: ds, _, h => by
    obtain ⟨v, r, rfl, h3, h4⟩ := h
    exact IsL.drop n h4
theorem IsL.reverse {K : PySem.W.Frag} {F : Hp} : ∀ {ds : List D} {vs : List V}, IsL K F ds vs → IsL K F ds.reverse vs.reverse
  | [], _, h => by rw [show _ = [] from h]; simp [IsL]
  | d :: ds, _, h => by
    obtain ⟨v, r, rfl, h3, h4⟩ := h
    rw [List.reverse_cons, List.reverse_cons]
    exact IsL.append (IsL.reverse h4) (.cons h3 .nil)
theorem IsL.set {K : PySem.W.Frag} {F : Hp} {d : D} {v : V} (hd : Is K F d v) : ∀ {ds : List D} {vs : List V} (i : Nat), IsL K F ds vs → IsL K F (ds.set i d) (vs.set i v)
  | [], _, _, h => by rw [show _ = [] from h]; simp [IsL]
  | e :: ds, _, 0, h => by
    obtain ⟨u, r, rfl, h3, h4⟩ := h
    exact ⟨v, r, rfl, hd, h4⟩
  | e :: ds, _, i + 1, h => by
    obtain ⟨u, r, rfl, h3, h4⟩ := h
    exact ⟨u, r.set i v, rfl, h3, IsL.set hd i h4⟩

/-! ### errors, results, cells -/
structure Err where
  cls : Str
  ns : List Str
  vs : List D
/-- a result: a datum that stays, a cell, a new object of this content, an exception -/
inductive Rv where
  | d (u : D) | r (l : Nat) | n (u : D) | ex (er : Err)
/-- the cells: objects that change -/
abbrev Cs := List D
abbrev T (α : Type) : Type := Cs → Option (Except Err α × Cs)
namespace T
variable {α β : Type}
@[reducible] def pure (x : α) : T α := fun G => some (.ok x, G)
@[reducible] def stuck : T α := fun _ => none
@[reducible] def throw (e : Err) : T α := fun G => some (.error e, G)
def bind (m : T α) (k : α → T β) : T β := fun G => match m G with
  | none => none
  | some (.error e, G1) => some (.error e, G1)
  | some (.ok x, G1) => k x G1
def ask (c : Bool) (m : T α) : T α := fun G => cond c (m G) none
def mapM (f : α → T β) : List α → T (List β)
  | [] => pure []
  | x :: xs => bind (f x) fun y => bind (mapM f xs) fun ys => pure (y :: ys)
theorem pure_bind (x : α) (k : α → T β) : bind (pure x) k = k x := rfl
theorem bind_pure (m : T α) : bind m pure = m := by
  funext G
  unfold bind
  cases m G with
  | none => rfl
  | some p => obtain ⟨p1, p2⟩ := p; cases p1 <;> rfl
theorem bind_assoc {γ : Type} (m : T α) (k : α → T β) (l : β → T γ) : bind (bind m k) l = bind m (fun x => bind (k x) l) := by
  funext G
  unfold bind
  cases m G with
  | none => rfl
  | some p => obtain ⟨p1, p2⟩ := p; cases p1 <;> rfl
theorem throw_bind (e : Err) (k : α → T β) : bind (throw e) k = throw e := rfl
theorem stuck_bind (k : α → T β) : bind stuck k = (stuck : T β) := rfl
theorem ask_true (m : T α) : ask true m = m := rfl
theorem bind_ok {m : T α} {k : α → T β} {G G1 : Cs} {r : Except Err β} (h : bind m k G = some (r, G1)) : (∃ e, m G = some (.error e, G1) ∧ r = .error e) ∨ ∃ x G2, m G = some (.ok x, G2) ∧ k x G2 = some (r, G1) := by
  unfold bind at h
  cases q : m G with
  | none => rw [q] at h; cases h
  | some p =>
    obtain ⟨p1, p2⟩ := p
    rw [q] at h
    cases p1 with
    | error e =>
      dsimp only at h
      cases h
      exact .inl ⟨e, rfl, rfl⟩
    | ok x => exact .inr ⟨x, p2, rfl, h⟩
theorem ask_ok {c : Bool} {m : T α} {G G1 : Cs} {r : Except Err α} (h : ask c m G = some (r, G1)) : c = true ∧ m G = some (r, G1) := by
  cases c with
  | true => exact ⟨rfl, h⟩
  | false => cases h
end T

/-- what the object at a is -/
def Ob (K : PySem.W.Frag) (F H : Hp) (a : Addr) : D → Prop
  | .lst ds => ∃ vs, H a = some (.lst vs) ∧ IsL K F ds vs
  | .dK ks ds => ∃ vs, H a = some (.dK (ks.zip vs)) ∧ ks.length = vs.length ∧ IsL K F ds vs
  | .dT ks ds => ∃ vs, H a = some (.dT (ks.zip vs)) ∧ ks.length = vs.length ∧ IsL K F ds vs
  | .ins C ns ds => ∃ dx vs, H a = some (.ins (He.ga K C) dx (ns.zip vs)) ∧ ns.length = vs.length ∧ IsL K F ds vs
  | _ => False
/-- the state: F stays, cells stand at their places -/
structure Rep (K : PySem.W.Frag) (μ : Nat → Addr) (F : Hp) (G : Cs) (H : Hp) : Prop where
  sub : Ex F H
  at_ : ∀ l d, G[l]? = some d → F (μ l) = none ∧ Ob K F H (μ l) d
  inj : ∀ l l', l < G.length → l' < G.length → μ l = μ l' → l = l'
/-- a result's value -/
def IsV (K : PySem.W.Frag) (μ : Nat → Addr) (F : Hp) (G : Cs) (H : Hp) : Rv → V → Prop
  | .d x, v => Is K F x v
  | .r l, v => l < G.length ∧ v = .ref (μ l)
  | .n x, v => ∃ a, v = .ref a ∧ F a = none ∧ (∀ l, l < G.length → μ l ≠ a) ∧ Ob K F H a x
  | .ex _, _ => False
/-- an error class whose instances have these attributes -/
def ErrK (K : PySem.W.Frag) (C : Str) (ns : List Str) : Prop := XfC K (He.ga K C) ∧ ∀ f ∈ ns, PySem.W.findIn K (.ref (He.ga K C)) f = some none
/-- an error: its class, its own dict -/
def IsE (K : PySem.W.Frag) (F : Hp) (er : Err) (cls : Value) (d : Option Addr) : Prop :=
  cls = .ref (He.ga K er.cls) ∧ ErrK K er.cls er.ns ∧ ((er.ns = [] ∧ er.vs = [] ∧ d = none) ∨ ∃ dd vs, d = some dd ∧ F dd = some (.xd (er.ns.zip vs)) ∧ er.ns.length = vs.length ∧ IsL K F er.vs vs)
section
variable {K : PySem.W.Frag} {μ : Nat → Addr} {F F' H : Hp} {G : Cs} {a : Addr}
theorem Ob.mono (e : Ex F F') {x : D} (h : Ob K F H a x) : Ob K F' H a x := by
  cases x with
  | lst ds => obtain ⟨vs, h1, h2⟩ := h; exact ⟨vs, h1, h2.mono e⟩
  | dK ks ds => obtain ⟨vs, h1, h2, h3⟩ := h; exact ⟨vs, h1, h2, h3.mono e⟩
  | dT ks ds => obtain ⟨vs, h1, h2, h3⟩ := h; exact ⟨vs, h1, h2, h3.mono e⟩
  | ins C ns ds => obtain ⟨dx, vs, h1, h2, h3⟩ := h; exact ⟨dx, vs, h1, h2, h3.mono e⟩
  | _ => exact h.elim
theorem Ob.there {x : D} (h : Ob K F H a x) : ∃ o, H a = some o := by
  cases x with
  | lst ds => obtain ⟨vs, h1, _⟩ := h; exact ⟨_, h1⟩
  | dK ks ds => obtain ⟨vs, h1, _⟩ := h; exact ⟨_, h1⟩
  | dT ks ds => obtain ⟨vs, h1, _⟩ := h; exact ⟨_, h1⟩
  | ins C ns ds => obtain ⟨dx, vs, h1, _⟩ := h; exact ⟨_, h1⟩
  | _ => exact h.elim
/-- the same object in another heap -/
theorem Ob.same {H' : Hp} {x : D} (h : Ob K F H a x) (e : H' a = H a) : Ob K F H' a x := by
  cases x with
  | lst ds => obtain ⟨vs, h1, h2⟩ := h; exact ⟨vs, e.trans h1, h2⟩
  | dK ks ds => obtain ⟨vs, h1, h2⟩ := h; exact ⟨vs, e.trans h1, h2⟩
  | dT ks ds => obtain ⟨vs, h1, h2⟩ := h; exact ⟨vs, e.trans h1, h2⟩
  | ins C ns ds => obtain ⟨dx, vs, h1, h2⟩ := h; exact ⟨dx, vs, e.trans h1, h2⟩
  | _ => exact h.elim
/-- an object, frozen; a dict is locked as what it is -/
theorem Ob.freeze {x : D} (h : Ob K F H a x) (n : F a = none) : ∃ o, H a = some o ∧ (Is K (upd F a o) x (.ref a) ∨ (Mut (some o) ∧ ∀ od, Is K (upd F a (.frz od o)) x (.ref a))) := by
  have e : ∀ o, Ex F (upd F a o) := fun o => Ex.new n
  cases x with
  | lst ds => obtain ⟨vs, h1, h2⟩ := h; exact ⟨_, h1, .inl ⟨a, vs, rfl, upd_same, h2.mono (e _)⟩⟩
  | dK ks ds => obtain ⟨vs, h1, h2, h3⟩ := h; exact ⟨_, h1, .inr ⟨trivial, fun od => ⟨a, od, vs, rfl, upd_same, h2, h3.mono (e _)⟩⟩⟩
  | dT ks ds => obtain ⟨vs, h1, h2, h3⟩ := h; exact ⟨_, h1, .inr ⟨trivial, fun od => ⟨a, od, vs, rfl, upd_same, h2, h3.mono (e _)⟩⟩⟩
  | ins C ns ds => obtain ⟨dx, vs, h1, h2, h3⟩ := h; exact ⟨_, h1, .inl ⟨a, dx, vs, rfl, upd_same, h2, h3.mono (e _)⟩⟩
  | _ => exact h.elim
theorem Rep.frozen {o : HO} (r : Rep K μ F G H) (n : F a = none) (c : ∀ l, l < G.length → μ l ≠ a) (h : H a = some o) : Rep K μ (upd F a o) G H := by
  refine ⟨r.sub.put h, fun l d e => ?_, r.inj⟩
  obtain ⟨h1, h2⟩ := r.at_ l d e
  have hl : l < G.length := (List.getElem?_eq_some_iff.mp e).1
  exact ⟨by rw [upd_ne (c l hl)]; exact h1, h2.mono (Ex.new n)⟩
/-- a new object that stays open -/
theorem Rep.new {o : HO} (r : Rep K μ F G H) (n : H a = none) : Rep K μ F G (upd H a o) := by
  refine ⟨r.sub.updN (r.sub.none n), fun l d e => ?_, r.inj⟩
  obtain ⟨h1, h2⟩ := r.at_ l d e
  obtain ⟨u, h3⟩ := h2.there
  exact ⟨h1, h2.same (upd_ne (ne_of_none h3 n))⟩
/-- a new object, frozen at once -/
theorem Rep.newF {o : HO} (r : Rep K μ F G H) (n : H a = none) : Rep K μ (upd F a o) G (upd H a o) := by
  refine (r.new n).frozen (r.sub.none n) (fun l hl e => ?_) upd_same
  obtain ⟨h1, h2⟩ := r.at_ l _ (List.getElem?_eq_getElem hl)
  obtain ⟨u, h3⟩ := h2.there
  rw [e] at h3
  rw [n] at h3
  cases h3
theorem Rep.off (r : Rep K μ F G H) (n : H a = none) : ∀ l, l < G.length → μ l ≠ a := fun l hl e => by
  obtain ⟨h1, h2⟩ := r.at_ l _ (List.getElem?_eq_getElem hl)
  obtain ⟨u, h3⟩ := h2.there
  rw [e] at h3
  rw [n] at h3
  cases h3
/-- no result is new any more -/
def Rv.frz : Rv → Rv
  | .n u => .d u
  | w => w
/-- what stands at a written anew, no cell's -/
theorem Rep.at (r : Rep K μ F G H) {o : HO} (n : F a = none) (c : ∀ l, l < G.length → μ l ≠ a) : Rep K μ F G (upd H a o) := by
  refine ⟨fun b u hb => ?_, fun l d e => ?_, r.inj⟩
  · rw [upd_ne (ne_of_none hb n)]
    exact r.sub _ _ hb
  · obtain ⟨h1, h2⟩ := r.at_ l d e
    have hl : l < G.length := (List.getElem?_eq_some_iff.mp e).1
    exact ⟨h1, h2.same (upd_ne (c l hl))⟩
end
section
variable {X : Cx} {pins : List (Addr × Obj)} {σ : L2.St} {s : Shared} {μ : Nat → Addr} {F H : Hp} {G : Cs}
/-- a result that is to stay -/
theorem frz_inv {w : Rv} {v : V} (I : Inv X pins σ H s) (r : Rep X.K μ F G H) (h : IsV X.K μ F G H w v) : ∃ F' H', Inv X pins σ H' s ∧ Ex F F' ∧ Rep X.K μ F' G H' ∧ IsV X.K μ F' G H' w.frz v := by
  cases w with
  | d u => exact ⟨F, H, I, Ex.refl F, r, h⟩
  | r l => exact ⟨F, H, I, Ex.refl F, r, h⟩
  | ex er => exact h.elim
  | n u =>
    obtain ⟨a, rfl, h1, h2, h3⟩ := h
    obtain ⟨o, h4, h5⟩ := h3.freeze h1
    rcases h5 with h5 | ⟨mu, h5⟩
    · exact ⟨_, H, I, Ex.new h1, r.frozen h1 h2 h4, h5⟩
    · obtain ⟨od, I2⟩ := I.lock h4 mu
      exact ⟨_, _, I2, Ex.new h1, (r.at h1 h2).frozen h1 h2 upd_same, h5 od⟩
end
end L4

set_option Elab.async false
set_option linter.all false
set_option maxRecDepth 100000
set_option maxHeartbeats 4000000
/-! Texts of programs without places, and what they do to data. -/
namespace L4
open PySem PySem.Spec PyProof.Rows L2

/-- what may be called: a def or an __init__ (by its class), a method, a property, a class method -/
inductive Fi where
  | g (x : Str) | k (C : Str) | m (C x : Str) | p (C x : Str) | c (C x : Str)
  deriving DecidableEq
/-- what is called, and the classes that are known -/
structure Hd where
  call : Fi → List Rv → T Rv
  cls : Str → Bool
  has : Fi → Bool
  exm : Str → Str → Option Bool
abbrev Env := List (Option Rv)

/-- a built-in function -/
inductive Bf where
  | len | list | tuple | dict | sorted | str | int | abs | sum | max | min | all | any | repr
/-- a class for isinstance -/
inductive Ty where
  | bt (x : Str) (t : String) | cl (x : Str)
mutual
inductive X where
  | con (d : D) | var (i : Nat) | glo (x : Str) (d : D)
  | bin (o : Operator) (a b : X) | neg (a : X) | nt (a : X) | and (a b : X) | or (a b : X)
  | cmp (o : CmpOp) (a b : X) | cmp2 (o p : CmpOp) (a b c : X)
  | ite (c a b : X)
  | fn (x : Str) (as : Xs)
  | fnk (x : Str) (as : Xs) (ks : List Str) (kv : Xs)
  | mk (x : Str) (as : Xs)
  | mkv (i : Nat) (as : Xs)
  | blt (x : Bf) (as : Xs)
  | isi (a : X) (t : Ty) | isi2 (a : X) (t u : Ty)
  | met (o : X) (m : Str) (as : Xs)
  | att (o : X) (f : Str) | prp (o : X) (f : Str)
  | ix (o i : X) | slc (o : X) (lo hi : Xo) | rev (o : X)
  | lst (as : Xs) | tup (as : Xs) | dct (ps : Xp)
  | lc (e : X) (c : Cl) | dc (k e : X) (c : Cl) | ls (e : X) (c : Cl)
  | fst (as : Xs)
inductive Xs where
  | nil | cons (a : X) (r : Xs) | star (a : X) (r : Xs)
inductive Xp where
  | nil | cons (k v : X) (r : Xp) | star (a : X) (r : Xp)
inductive Xo where
  | no | yes (a : X)
inductive It where
  | val (e : X) | rg1 (a : X) | rg2 (a b : X) | rg3 (a b c : X) | enum (e : X) | zip (a b : X) | items (o : X) | vals (o : X)
inductive Cl where
  | one (vs : List Nat) (tg : Tg) (it : It) (c : Xo)
  | two (vs : List Nat) (tg : Tg) (it : It) (c : Xo) (vs1 : List Nat) (tg1 : Tg) (it1 : It) (c1 : Xo)
inductive Tg where
  | name (i : Nat) | tup (is : List Nat)
end
mutual
inductive S where
  | set (i : Nat) (keep : Bool) (e : X)
  | tups (is : List Nat) (e : X)
  | par (is : List Nat) (ks : List Bool) (es : Xs)
  | sub (o i e : X) | att (o : X) (f : Str) (e : X)
  | aug (i : Nat) (o : Operator) (e : X)
  | ex (e : X)
  | ite (c : X) (a b : Ss) | while (c : X) (b : Ss) | for (tg : Tg) (it : It) (b : Ss)
  | ret (e : X) | retN
  | rai (C : Str) (ns : List Str) (as : Xs)
  | try (b : Ss) (hs : Hs)
  | brk | cnt | pas
inductive Ss where
  | nil | cons (s : S) (r : Ss)
inductive Hs where
  | nil | cons (C : Str) (i : Option Nat) (b : Ss) (r : Hs)
end

def Xs.ne : Xs → Bool
  | .nil => false
  | _ => true
/-! ### data -/
def keyD : Key → D
  | .inl i => .int i
  | .inr s => .str s
def tkeyD (k : List Key) : D := .tup (k.map keyD)
def toKey : D → Option Key
  | .int i => some (.inl i)
  | .str s => some (.inr s)
  | _ => none
def toKeys : List D → Option (List Key)
  | [] => some []
  | d :: ds => match toKey d, toKeys ds with
    | some k, some ks => some (k :: ks)
    | _, _ => none
def toTKey : D → Option (List Key)
  | .tup ds => toKeys ds
  | _ => none
/-- a cell read -/
def see (G : Cs) : Rv → Option D
  | .d u => some u
  | .n u => some u
  | .r l => G[l]?
  | .ex _ => none
/-- what is walked over -/
def items : D → Option (List D)
  | .lst xs => some xs
  | .tup xs => some xs
  | .scr ns => some (ns.map D.int)
  | .str s => some (s.cps.toList.map fun c => D.str ⟨#[c]⟩)
  | .dK ks _ => some (ks.map keyD)
  | .dT ks _ => some (ks.map tkeyD)
  | _ => none
def vals : D → Option (List D)
  | .dK _ vs => some vs
  | .dT _ vs => some vs
  | _ => none
def pairs : D → Option (List D)
  | .dK ks vs => some ((ks.zip vs).map fun p => .tup [keyD p.1, p.2])
  | .dT ks vs => some ((ks.zip vs).map fun p => .tup [tkeyD p.1, p.2])
  | _ => none
section
variable {κ : Type} [DecidableEq κ]
def at_ (k : κ) : List κ → List D → Option D
  | k' :: ks, v :: vs => if k' = k then some v else at_ k ks vs
  | _, _ => none
def put_ (k : κ) (v : D) (ks : List κ) (vs : List D) : List κ × List D :=
  if (ks.any fun k' => decide (k' = k)) = true then (ks, (ks.zip vs).map fun p => if p.1 = k then v else p.2) else (ks ++ [k], vs ++ [v])
end
/-- what a dict holds at a key -/
def dget (d k : D) : Option (Option D) := match d with
  | .dK ks vs => match toKey k, toTKey k with
    | some k, _ => some (at_ k ks vs)
    | none, some _ => if ks = [] then some none else none
    | _, _ => none
  | .dT ks vs => match toTKey k with
    | some k => some (at_ k ks vs)
    | none => none
  | _ => none
def dput (d k v : D) : Option D := match d with
  | .dK ks vs => match toKey k, toTKey k with
    | some k, _ => some (.dK (put_ k v ks vs).1 (put_ k v ks vs).2)
    | none, some k => if ks = [] then some (.dT [k] [v]) else none
    | _, _ => none
  | .dT ks vs => match toTKey k with
    | some k => some (.dT (put_ k v ks vs).1 (put_ k v ks vs).2)
    | none => none
  | _ => none
/-- an attribute -/
def fldL (f : Str) : List Str → List D → Option D
  | n :: ns, v :: vs => if n = f then some v else fldL f ns vs
  | _, _ => none
def fld (f : Str) : D → Option D
  | .ins _ ns vs => fldL f ns vs
  | _ => none
def putF (f : Str) (v : D) : List Str → List D → List Str × List D
  | n :: ns, v' :: vs => if n = f then (n :: ns, v :: vs) else (n :: (putF f v ns vs).1, v' :: (putF f v ns vs).2)
  | _, _ => ([f], [v])

def tagOf : D → Option String
  | .non => some "NoneType"
  | .bool _ => some "bool"
  | .int _ => some "int"
  | .str _ => some "str"
  | .lst _ => some "list"
  | .tup _ => some "tuple"
  | .dK .. => some "dict"
  | .dT .. => some "dict"
  | _ => none
def insOf : D → Option Str
  | .ins C _ _ => some C
  | _ => none
/-- isinstance -/
def isT (h : Hd) : Ty → D → Option Bool
  | .bt _ T, d => match tagOf d with
    | some t => some (t == T || (t == "bool" && T == "int"))
    | none => match insOf d with
      | some C => cond (h.cls C) (some false) none
      | none => none
  | .cl C, d => match tagOf d with
    | some _ => some false
    | none => match insOf d with
      | some C' => cond (h.cls C') (some (decide (C' = C))) none
      | none => none


mutual
/-- data of none, bools, ints, texts, lists, tuples -/
def seqD : D → Bool
  | .non => true
  | .bool _ => true
  | .int _ => true
  | .str _ => true
  | .lst ds => seqL ds
  | .tup ds => seqL ds
  | _ => false
def seqL : List D → Bool
  | [] => true
  | d :: ds => seqD d && seqL ds
end
mutual
def pyD : D → PyData
  | .bool b => .bool b
  | .int i => .int i
  | .str s => .str s
  | .lst ds => .list (pyL ds)
  | .tup ds => .tuple (pyL ds)
  | .dK [] [] => .dict []
  | _ => .none
def pyL : List D → List PyData
  | [] => []
  | d :: ds => pyD d :: pyL ds
end
def eqOk (d : D) : Bool := seqD d && SeqAt.shaped (pyD d)
def isI : D → Bool
  | .int _ => true
  | _ => false

/-! ### operators -/
def line : Nat := 1000000
def askO {α : Type} (c : Bool) (x : Option α) : Option α := cond c x none
def intBin : Operator → Int → Int → Option D
  | .Add, i, j => some (.int (i + j))
  | .Sub, i, j => some (.int (i - j))
  | .Mult, i, j => askO (decide (i.natAbs.log2 + j.natAbs.log2 < 1000000)) (some (.int (i * j)))
  | .FloorDiv, i, j => askO (decide (j ≠ 0) && decide (j.natAbs.log2 < 9000)) (some (.int (i.fdiv j)))
  | .Mod, i, j => askO (decide (j ≠ 0)) (some (.int (i.fmod j)))
  | .Pow, i, j => askO (decide (0 ≤ j) && (decide (j ≤ 1000000) && decide (i.natAbs < 2 ^ 64))) (some (.int (i ^ j.toNat)))
  | .LShift, i, j => askO (decide (0 ≤ j) && (decide (j ≤ 1000000) && decide (i.natAbs < 2 ^ 64))) (some (.int (i * 2 ^ j.toNat)))
  | .RShift, i, j => askO (decide (0 ≤ j) && decide (j < 2 ^ 40)) (some (.int (i / 2 ^ j.toNat)))
  | .BitAnd, i, j => askO (decide (0 ≤ i) && decide (j = 1)) (some (.int (i % 2)))
  | _, _, _ => none
def binD (o : Operator) : D → D → Option Rv
  | .int i, .int j => (intBin o i j).map Rv.d
  | .str s, .str t => match o with
    | .Add => askO (decide (s.length + t.length ≤ line)) (some (.d (.str (s ++ t))))
    | _ => none
  | .str s, .int k => match o with
    | .Mult => askO (decide (2 ≤ k) && (decide (k ≤ 1000) && (decide (s.length ≤ 1000) && decide (s.length ≠ 0)))) (some (.d (.str ⟨(List.replicate k.toNat s.cps.toList).flatten.toArray⟩)))
    | _ => none
  | .lst xs, .lst ys => match o with
    | .Add => askO (decide (xs.length + ys.length ≤ line)) (some (.n (.lst (xs ++ ys))))
    | _ => none
  | .lst xs, .int k => match o with
    | .Mult => askO (decide (-1000 ≤ k) && (decide (k ≤ 1000) && decide (xs.length ≤ 1000))) (some (.n (.lst (List.replicate k.toNat xs).flatten)))
    | _ => none
  | .tup xs, .int k => match o with
    | .Mult => askO (decide (2 ≤ k) && (decide (k ≤ 1000) && (decide (xs.length ≤ 1000) && !xs.isEmpty))) (some (.d (.tup (List.replicate k.toNat xs).flatten)))
    | _ => none
  | _, _ => none
def dunder : Operator → Option Str
  | .Add => some "__add__"
  | .Sub => some "__sub__"
  | .Mult => some "__mul__"
  | _ => none
def eBin (h : Hd) (o : Operator) (x y : Rv) : T Rv := fun G => match see G x, see G y with
  | some (.ins C _ _), some b => match dunder o with
    | some nm => T.ask (h.cls C && (isI b || decide (insOf b = some C))) (h.call (.m C nm) [x, y]) G
    | none => none
  | some a, some b => match binD o a b with
    | some r => some (.ok r, G)
    | none => none
  | _, _ => none
def eNeg (h : Hd) (x : Rv) : T Rv := fun G => match see G x with
  | some (.int i) => some (.ok (.d (.int (-i))), G)
  | some (.ins C _ _) => T.ask (h.cls C) (h.call (.m C "__neg__") [x]) G
  | _ => none
def strLt (a b : Str) : Bool := decide (a.cps.toList < b.cps.toList)
def cmpD (o : CmpOp) : D → D → Option Bool
  | .int i, .int j => match o with
    | .Lt => some (decide (i < j))
    | .LtE => some (decide (i ≤ j))
    | .Gt => some (decide (j < i))
    | .GtE => some (decide (j ≤ i))
    | .Eq => some (decide (i = j))
    | .NotEq => some (!decide (i = j))
    | _ => none
  | .str s, .str t => match o with
    | .Lt => some (strLt s t)
    | .LtE => some (!strLt t s)
    | .Gt => some (strLt t s)
    | .Eq => some (decide (s = t))
    | .NotEq => some (!decide (s = t))
    | .In => some (!(Builtin.Str.occurrences t s 0 t.length 1).isEmpty)
    | .NotIn => some (!!(Builtin.Str.occurrences t s 0 t.length 1).isEmpty)
    | _ => none
  | a, .non => match o with
    | .Is => some (match a with | .non => true | _ => false)
    | .IsNot => some (match a with | .non => false | _ => true)
    | .Eq => askO (eqOk a) (some (PyData.eqv (pyD a) .none))
    | .NotEq => askO (eqOk a) (some (!PyData.eqv (pyD a) .none))
    | _ => none
  | a, b => match o with
    | .Eq => askO (eqOk a && eqOk b) (some (PyData.eqv (pyD a) (pyD b)))
    | .NotEq => askO (eqOk a && eqOk b) (some (!PyData.eqv (pyD a) (pyD b)))
    | .In => match b with
      | .lst ys => askO (eqOk a && eqOk b) (some (ys.any fun y => PyData.eqv (pyD y) (pyD a)))
      | .tup ys => askO (eqOk a && eqOk b) (some (ys.any fun y => PyData.eqv (pyD y) (pyD a)))
      | _ => (dget b a).map Option.isSome
    | .NotIn => match b with
      | .lst ys => askO (eqOk a && eqOk b) (some (!ys.any fun y => PyData.eqv (pyD y) (pyD a)))
      | .tup ys => askO (eqOk a && eqOk b) (some (!ys.any fun y => PyData.eqv (pyD y) (pyD a)))
      | _ => (dget b a).map fun r => !r.isSome
    | _ => none
def cmpOwn : CmpOp → Option (Str × Bool)
  | .Eq => some ("__eq__", true)
  | .NotEq => some ("__eq__", false)
  | .Lt => some ("__lt__", true)
  | .LtE => some ("__le__", true)
  | _ => none
def eCmp (h : Hd) (o : CmpOp) (x y : Rv) : T Rv := fun G => match see G x, see G y with
  | some (.ins C _ _), some b => match cmpOwn o with
    | some (nm, pos) => T.bind (T.ask (h.cls C && ((tagOf b).isSome || decide (insOf b = some C))) (h.call (.m C nm) [x, y])) (fun r => match r with
      | .d (.bool c) => T.pure (.d (.bool (c == pos)))
      | _ => T.stuck) G
    | none => match o, b with
      | .Is, .non => some (.ok (.d (.bool false)), G)
      | .IsNot, .non => some (.ok (.d (.bool true)), G)
      | _, _ => none
  | some a, some b => match cmpD o a b with
    | some c => some (.ok (.d (.bool c)), G)
    | none => none
  | _, _ => none
/-! ### built-in functions -/
def intsL : List D → Option (List Int)
  | [] => some []
  | .int i :: r => (intsL r).map (i :: ·)
  | _ => none
def strsL : List D → Option (List Str)
  | [] => some []
  | .str s :: r => (strsL r).map (s :: ·)
  | _ => none
def boolsL : List D → Option (List Bool)
  | [] => some []
  | .bool b :: r => (boolsL r).map (b :: ·)
  | _ => none
def repOk : D → Bool
  | .dK [] [] => true
  | d => seqD d && ((pyD d).showable && (!(pyD d).hasDict && (decide ((pyD d).depth ≤ 64) && decide ((pyD d).shown.length ≤ 1000000))))
def insS (x : Str) : List Str → List Str
  | [] => [x]
  | y :: r => if strLt y x then y :: insS x r else x :: y :: r
def sortS : List Str → List Str
  | [] => []
  | x :: r => insS x (sortS r)
def insI (x : Int) : List Int → List Int
  | [] => [x]
  | y :: r => if y < x then y :: insI x r else x :: y :: r
def sortI : List Int → List Int
  | [] => []
  | x :: r => insI x (sortI r)
def maxI : List Int → Option Int
  | [] => none
  | x :: r => some (r.foldl (fun m y => if m < y then y else m) x)
def minI : List Int → Option Int
  | [] => none
  | x :: r => some (r.foldl (fun m y => if y < m then y else m) x)
def lenD : D → Option Nat
  | .lst xs => some xs.length
  | .tup xs => some xs.length
  | .scr ns => some ns.length
  | .str s => askO (decide (s.length ≤ line)) (some s.length)
  | .dK ks _ => some ks.length
  | _ => none
def dictOf : List D → D → Option D
  | [], d => some d
  | .tup [k, v] :: r, d => (dput d k v).bind (dictOf r)
  | _, _ => none
def bltL : D → Option Rv
  | .lst xs => askO (decide (xs.length ≤ line)) (some (.n (.lst xs)))
  | .tup xs => askO (decide (xs.length ≤ line)) (some (.n (.lst xs)))
  | .scr ns => askO (decide (ns.length ≤ line)) (some (.n (.lst (ns.map D.int))))
  | .dK ks _ => some (.n (.lst (ks.map keyD)))
  | _ => none
def bltT : D → Option Rv
  | .lst xs => askO (decide (xs.length ≤ line)) (some (.d (.tup xs)))
  | .tup xs => some (.d (.tup xs))
  | _ => none
def bltDi : D → Option Rv
  | .dK ks vs => some (.n (.dK ks vs))
  | _ => none
def bltSo : D → Option Rv
  | .lst xs => match strsL xs, intsL xs with
    | some ss, _ => askO (decide (ss.length < 64)) (some (.n (.lst ((sortS ss).map D.str))))
    | none, some ns => askO (decide (ns.length < 64)) (some (.n (.lst ((sortI ns).map D.int))))
    | none, none => none
  | _ => none
def bltS : D → Option Rv
  | .str s => some (.d (.str s))
  | .int i => askO (decide (i.natAbs.log2 < 1920)) (some (.d (.str (Str.ofString (toString i)))))
  | _ => none
def bltI : D → Option Rv
  | .int i => some (.d (.int i))
  | .bool b => some (.d (.int (if b then 1 else 0)))
  | .str s => askO (decide (s.length ≤ 640)) ((PySem.intText? s).map fun n => .d (.int n))
  | _ => none
def bltD (x : Bf) (ds : List D) : Option Rv := match x, ds with
  | .len, [a] => (lenD a).map fun (n : Nat) => .d (.int (n : Int))
  | .list, [a] => bltL a
  | .tuple, [a] => bltT a
  | .dict, [a] => bltDi a
  | .sorted, [a] => bltSo a
  | .str, [a] => bltS a
  | .int, [a] => bltI a
  | .abs, [.int i] => some (.d (.int (if i < 0 then -i else i)))
  | .sum, [.lst xs] => (intsL xs).map fun ns => .d (.int ns.sum)
  | .max, [.lst xs] => ((intsL xs).bind maxI).map fun n => .d (.int n)
  | .min, [.lst xs] => ((intsL xs).bind minI).map fun n => .d (.int n)
  | .all, [.lst xs] => (boolsL xs).map fun bs => .d (.bool (bs.all id))
  | .any, [.lst xs] => (boolsL xs).map fun bs => .d (.bool (bs.any id))
  | .max, [.int i, .int j] => some (.d (.int (if j > i then j else i)))
  | .min, [.int i, .int j] => some (.d (.int (if j < i then j else i)))
  | _, _ => none
/-- a built-in function called (q: no guard is up) -/
def repD (q : Bool) : List D → Option Rv
  | [a] => askO (q && repOk a) (some (.d (.str (pyD a).shown)))
  | _ => none
def eBlt (q : Bool) (x : Bf) (as : List Rv) : T Rv := fun G => match (as.mapM (see G)).bind (match x with | .repr => repD q | x => bltD x) with
  | some r => some (.ok r, G)
  | none => none
/-! ### subscripts -/
def cutL {α : Type} (xs : List α) (lo hi : Option Int) : List α := (xs.drop (HT.sIx xs.length 0 lo)).take (HT.sIx xs.length xs.length hi - HT.sIx xs.length 0 lo)
def ixD : D → D → Option D
  | .lst xs, .int i => atI xs i
  | .tup xs, .int i => atI xs i
  | .scr ns, .int i => (atI ns i).map D.int
  | .str s, .int i => askO (decide (s.length ≤ line)) ((atI s.cps.toList i).map fun c => .str ⟨#[c]⟩)
  | d, k => (dget d k).bind id
def slD : D → Option Int → Option Int → Option Rv
  | .lst xs, lo, hi => some (.n (.lst (cutL xs lo hi)))
  | .scr ns, lo, hi => some (.n (.lst (cutL (ns.map D.int) lo hi)))
  | .tup xs, lo, hi => some (.d (.tup (cutL xs lo hi)))
  | .str s, lo, hi => askO (decide (s.length ≤ line)) (some (.d (.str ⟨(cutL s.cps.toList lo hi).toArray⟩)))
  | _, _, _ => none
/-! ### methods of built-in types -/
def metD (m : Str) : D → List D → Option Rv
  | .str s, [.str t] =>
    if m = "split" then askO (decide (s.length ≤ line) && !(t.length == 0)) (some (.n (.lst ((Txt.split s t).map D.str))))
    else if m = "partition" then askO (decide (s.length ≤ line) && !(t.length == 0)) (some (.d (.tup [.str (Txt.partition s t).1, .str (Txt.partition s t).2.1, .str (Txt.partition s t).2.2])))
    else if m = "removeprefix" then askO (decide (s.length ≤ line)) (some (.d (.str (Txt.removeprefix s t))))
    else none
  | .str s, [.lst xs] =>
    if m = "join" then match strsL xs with
      | some ss => askO (decide ((ss.map (·.length)).sum + ss.length * s.length ≤ 16777216)) (some (.d (.str (Txt.join s ss))))
      | none => none
    else none
  | .str s, [.tup xs] =>
    if m = "join" then match strsL xs with
      | some ss => askO (decide ((ss.map (·.length)).sum + ss.length * s.length ≤ 16777216)) (some (.d (.str (Txt.join s ss))))
      | none => none
    else none
  | .lst xs, [a] => if m = "index" then askO (eqOk a && eqOk (.lst xs)) ((xs.findIdx? fun y => PyData.eqv (pyD y) (pyD a)).map fun (i : Nat) => .d (.int (i : Int))) else none
  | .dK ks vs, [k] => if m = "get" then (dget (.dK ks vs) k).map fun r => .d (r.getD .non) else none
  | .dT ks vs, [k] => if m = "get" then (dget (.dT ks vs) k).map fun r => .d (r.getD .non) else none
  | .dK ks vs, [k, e] => if m = "get" then (dget (.dK ks vs) k).map fun r => .d (r.getD e) else none
  | .dT ks vs, [k, e] => if m = "get" then (dget (.dT ks vs) k).map fun r => .d (r.getD e) else none
  | _, _ => none
/-- what is changed: the new content, the value -/
def mutD (m : Str) : D → List D → Option (D × D)
  | .lst xs, [] =>
    if m = "clear" then some (.lst [], .non)
    else if m = "pop" then (atI xs (-1)).map fun v => (.lst (xs.eraseIdx (xs.length - 1)), v)
    else none
  | .lst xs, [a] =>
    if m = "append" then askO (decide (xs.length < line)) (some (.lst (xs ++ [a]), .non))
    else if m = "pop" then match a with
      | .int i => (ixN xs.length i).bind fun j => (xs[j]?).map fun v => (.lst (xs.eraseIdx j), v)
      | _ => none
    else if m = "extend" then match a with
      | .lst ys => askO (decide (xs.length + ys.length ≤ line)) (some (.lst (xs ++ ys), .non))
      | _ => none
    else none
  | .lst xs, [.int i, a] =>
    if m = "insert" then askO (decide (xs.length < line) && (decide (0 ≤ i) && decide (i ≤ xs.length))) (some (.lst (xs.take i.toNat ++ a :: xs.drop i.toNat), .non))
    else none
  | .dK _ _, [] => if m = "clear" then some (.dK [] [], .non) else none
  | _, _ => none
def muts : List Str := ["append", "clear", "pop", "extend", "insert"]
/-- a cell for the while -/
def lend (u : D) (f : Rv → T Rv) : T Rv := fun G => match f (.r G.length) (G ++ [u]) with
  | some (.ok (.d v), G1) => some (.ok (.d v), G1.take G.length)
  | some (.error er, G1) => some (.error er, G1.take G.length)
  | _ => none
def newOf : Rv → Option D
  | .n u => some u
  | _ => none
def asD : Rv → Option D
  | .d u => some u
  | _ => none
/-- what kind of thing an object is -/
inductive Kd where
  | t (T : String) | i (C : Str) | c (C : Str) | no
  deriving DecidableEq
def kd : D → Kd
  | .ins C _ _ => .i C
  | .cl C => .c C
  | u => match tagOf u with
    | some T => .t T
    | none => .no
/-- of what built-in type, by which name -/
def bid (m : Str) (T : String) : Option String :=
  if T = "str" then (if m = "split" then some "str.split" else if m = "partition" then some "str.partition" else if m = "removeprefix" then some "str.removeprefix" else if m = "join" then some "str.join" else none)
  else if T = "list" then (if m = "index" then some "list.index" else if m = "append" then some "list.append" else if m = "clear" then some "list.clear" else if m = "pop" then some "list.pop" else if m = "extend" then some "list.extend" else if m = "insert" then some "list.insert" else none)
  else if T = "dict" then (if m = "get" then some "dict.get" else if m = "clear" then some "dict.clear" else none)
  else none
/-- whether a thing has a method -/
def knows (h : Hd) (m : Str) (ne : Bool) : D → Bool
  | .ins C ns vs => h.cls C && (h.has (.m C m) && (fldL m ns vs).isNone)
  | .cl C => ne && h.has (.c C m)
  | u => match tagOf u with
    | some T => (bid m T).isSome
    | none => false
def kindT (h : Hd) (m : Str) (ne : Bool) (w : Rv) : T Kd := fun G => match see G w with
  | some u => cond (knows h m ne u) (some (.ok (kd u), G)) none
  | none => none
def eM3 (o : Rv) (m : Str) (as : List Rv) (u : D) : T Rv := fun G =>
    if m ∈ muts then match o, as.mapM asD with
      | .r l, some ds => match mutD m u ds with
        | some (u', v) => some (.ok (.d v), G.set l u')
        | none => none
      | _, _ => none
    else match (if m = "get" then as.mapM asD else as.mapM (see G)) with
      | some ds => match metD m u ds with
        | some r => some (.ok r, G)
        | none => none
      | none => none
def eM2 (h : Hd) (o : Rv) (m : Str) (as : List Rv) (u : D) : T Rv := match u with
  | .ins C _ _ => h.call (.m C m) (o :: as)
  | .cl C => h.call (.c C m) as
  | u => eM3 o m as u
def eMet (h : Hd) (o : Rv) (m : Str) (k : Kd) (as : List Rv) : T Rv := fun G => match see G o with
  | some u => cond (decide (kd u = k)) (eM2 h o m as u G) none
  | none => none
def eAtt (h : Hd) (o : Rv) (f : Str) : T Rv := fun G => match o with
  | .ex er => match fldL f er.ns er.vs with
    | some v => some (.ok (.d v), G)
    | none => none
  | _ => match see G o with
    | some (.ins C ns vs) => match fldL f ns vs with
      | some v => askO (h.cls C) (some (.ok (.d v), G))
      | none => none
    | _ => none
def ePrp (h : Hd) (o : Rv) (f : Str) : T Rv := fun G => match see G o with
  | some (.ins C _ _) => match T.ask (h.cls C) (h.call (.p C f) [o]) G with
    | some (.ok w, G1) => some (.ok w, G1)
    | _ => none
  | _ => none
def getV (ρ : Env) (i : Nat) : T Rv := fun G => match ρ[i]? with
  | some (some w) => some (.ok w, G)
  | _ => none
/-- a class that a name holds -/
def clsOf (h : Hd) (w : Rv) : T Str := match w with
  | .d (.cl C) => T.ask (h.has (.k C)) (T.pure C)
  | _ => T.stuck
def asB (w : Rv) : T Bool := match w with
  | .d (.bool b) => T.pure b
  | _ => T.stuck
/-- the items of what is walked -/
def walkD (f : D → Option (List D)) (w : Rv) : T (List D) := fun G => match (see G w).bind f with
  | some xs => some (.ok xs, G)
  | none => none
def liftO {α : Type} (o : Option α) : T α := match o with
  | some x => T.pure x
  | none => T.stuck
def wipe (ρ : Env) : List Nat → Env
  | [] => ρ
  | v :: vs => (wipe ρ vs).set v none
def putS (x : D) (ρ : Env) (i : Nat) : Env := ρ.set i (some (.d x))
def putAll : List Nat → List D → Env → Option Env
  | [], [], ρ => some ρ
  | i :: is, x :: xs, ρ => putAll is xs (putS x ρ i)
  | _, _, _ => none
def putT (tg : Tg) (x : D) (ρ : Env) : Option Env := match tg with
  | .name i => some (putS x ρ i)
  | .tup is => match x with
    | .tup xs => putAll is xs ρ
    | _ => none
mutual
/-- the same datum -/
def D.same : D → D → Bool
  | .scr a, .scr b => decide (a = b)
  | .ty a, .ty b => decide (a = b)
  | .cl a, .cl b => decide (a = b)
  | .non, .non => true
  | .bool a, .bool b => decide (a = b)
  | .int a, .int b => decide (a = b)
  | .str a, .str b => decide (a = b)
  | .lst a, .lst b => D.sameL a b
  | .tup a, .tup b => D.sameL a b
  | .dK k a, .dK l b => decide (k = l) && D.sameL a b
  | .dT k a, .dT l b => decide (k = l) && D.sameL a b
  | .ins C k a, .ins C' l b => decide (C = C') && (decide (k = l) && D.sameL a b)
  | _, _ => false
def D.sameL : List D → List D → Bool
  | [], [] => true
  | a :: as, b :: bs => D.same a b && D.sameL as bs
  | _, _ => false
end
mutual
theorem D.same_eq : ∀ {a b : D}, D.same a b = true → a = b := fun {a b} h => by
  cases a <;> cases b <;> first | (simp [D.same] at h; done) | skip
  case scr.scr => simp [D.same] at h; rw [h]
  case ty.ty => simp [D.same] at h; rw [h]
  case cl.cl => simp [D.same] at h; rw [h]
  case non.non => rfl
  case bool.bool => simp [D.same] at h; rw [h]
  case int.int => simp [D.same] at h; rw [h]
  case str.str => simp [D.same] at h; rw [h]
  case lst.lst a b => simp [D.same] at h; rw [D.sameL_eq h]
  case tup.tup a b => simp [D.same] at h; rw [D.sameL_eq h]
  case dK.dK k a l b => simp [D.same] at h; rw [D.sameL_eq h.2, h.1]
  case dT.dT k a l b => simp [D.same] at h; rw [D.sameL_eq h.2, h.1]
  case ins.ins C k a C' l b => simp [D.same] at h; rw [D.sameL_eq h.2.2, h.1, h.2.1]
theorem D.sameL_eq : ∀ {a b : List D}, D.sameL a b = true → a = b
  | [], [], _ => rfl
  | a :: as, b :: bs, h => by
    simp [D.sameL] at h
    rw [D.same_eq h.1, D.sameL_eq h.2]
  | [], _ :: _, h => by simp [D.sameL] at h
  | _ :: _, [], h => by simp [D.sameL] at h
end
mutual
theorem D.same_self : ∀ (a : D), D.same a a = true := fun a => by
  cases a with
  | lst a => simp [D.same, D.sameL_self a]
  | tup a => simp [D.same, D.sameL_self a]
  | dK k a => simp [D.same, D.sameL_self a]
  | dT k a => simp [D.same, D.sameL_self a]
  | ins C k a => simp [D.same, D.sameL_self a]
  | _ => simp [D.same]
theorem D.sameL_self : ∀ (a : List D), D.sameL a a = true
  | [] => rfl
  | a :: as => by simp [D.sameL, D.same_self a, D.sameL_self as]
end
/-- cells that must stay while they are walked -/
abbrev Lk := List (Nat × D)
def heldB (lk : Lk) (G : Cs) : Bool := lk.all fun p => match G[p.1]? with
  | some u => D.same u p.2
  | none => false
def held (lk : Lk) : T Unit := fun G => cond (heldB lk G) (some (.ok (), G)) none
/-- no error within -/
def T.sure {α : Type} (m : T α) : T α := fun G => match m G with
  | some (.ok w, G1) => some (.ok w, G1)
  | _ => none
/-- a turn for each item -/
def T.each {α : Type} (lk : Lk) (f : α → T Unit) : List α → T Unit
  | [] => held lk
  | x :: xs => T.bind (held lk) fun _ => T.bind (T.sure (f x)) fun _ => T.each lk f xs
/-- an object in the making: in a cell of its own -/
def making (u : D) (f : Nat → T Unit) : T Rv := fun G => match f G.length (G ++ [u]) with
  | some (.ok _, G1) => match G1[G.length]? with
    | some u => some (.ok (.n u), G1.take G.length)
    | none => none
  | some (.error er, G1) => some (.error er, G1.take G.length)
  | none => none
/-- .. one more in the list, in the dict -/
def addL (l : Nat) (v : D) : T Unit := fun G => match G[l]? with
  | some (.lst us) => askO (decide (us.length < line)) (some (.ok (), G.set l (.lst (us ++ [v]))))
  | _ => none
def addD (l : Nat) (k v : D) : T Unit := fun G => match G[l]?, toKey k with
  | some (.dK ks vs), some k => askO (decide (ks.length < line)) (some (.ok (), G.set l (.dK (put_ k v ks vs).1 (put_ k v ks vs).2)))
  | _, _ => none
/-- within a block: the slots it may read -/
def blkE (vs : List Nat) (ρ : Env) : Env := (wipe ρ vs).map fun w => match w with
  | some (.ex _) => none
  | w => w
/-- the items, and what must stay: a list that changes may be walked, else what stays -/
def walkL (f : D → Option (List D)) (w : Rv) : T (List D × Lk) := fun G => match w with
  | .d u => match f u with
    | some xs => some (.ok (xs, []), G)
    | none => none
  | .r l => match G[l]? with
    | some (.lst us) => match f (.lst us) with
      | some xs => some (.ok (xs, [(l, .lst us)]), G)
      | none => none
    | _ => none
  | _ => none
def seqI : D → Option (List D)
  | .lst xs => some xs
  | .tup xs => some xs
  | .scr ns => some (ns.map D.int)
  | _ => none
def itemsL : D → Option (List D)
  | .lst xs => some xs
  | .scr ns => some (ns.map D.int)
  | _ => none
def pairsK : D → Option (List D)
  | .dK ks vs => some ((ks.zip vs).map fun p => .tup [keyD p.1, p.2])
  | _ => none
def valsK : D → Option (List D)
  | .dK _ vs => some vs
  | _ => none
def fin (w : Rv) : T Rv := T.pure w.frz
/-- a datum that stays -/
def finD (w : Rv) : T D := match w.frz with
  | .d u => T.pure u
  | _ => T.stuck
def enumD (xs : List D) : List D := (xs.zipIdx).map fun p => .tup [.int (p.2 : Int), p.1]
def zipD (xs ys : List D) : List D := (xs.zip ys).map fun p => .tup [p.1, p.2]
def rangeD (lo : Int) (n : Nat) : List D := (List.range n).map fun (k : Nat) => .int (lo + (k : Int))
def rangeD3 (lo c : Int) (n : Nat) : List D := (List.range n).map fun (k : Nat) => .int (lo + (k : Int) * c)
def asI (w : Rv) : T Int := match w with
  | .d (.int i) => T.pure i
  | _ => T.stuck
def i62 (i : Int) : Bool := decide (-(2 ^ 62) ≤ i) && decide (i < 2 ^ 62)
def fstr : List D → Option Str
  | [] => some ""
  | .str s :: r => (fstr r).map (s ++ ·)
  | .int i :: r => askO (decide (i.natAbs.log2 < 1920)) ((fstr r).map (Str.ofString (toString i) ++ ·))
  | _ => none
def fstrL (us : List D) : Option Rv := (fstr us).bind fun s => askO (decide (s.length ≤ line)) (some (.d (.str s)))
mutual
def eX (q : Bool) (h : Hd) : X → Env → T Rv
  | .con u, _ => T.pure (.d u)
  | .var i, ρ => getV ρ i
  | .glo _ u, _ => T.pure (.d u)
  | .bin o a b, ρ => T.bind (T.bind (eX q h a ρ) fin) fun x => T.bind (T.bind (eX q h b ρ) fin) fun y => eBin h o x y
  | .neg a, ρ => T.bind (T.bind (eX q h a ρ) fin) fun x => eNeg h x
  | .nt a, ρ => T.bind (T.bind (eX q h a ρ) asB) fun x => T.pure (.d (.bool (!x)))
  | .and a b, ρ => T.bind (T.bind (eX q h a ρ) asB) fun x => cond x (eX q h b ρ) (T.pure (.d (.bool false)))
  | .or a b, ρ => T.bind (T.bind (eX q h a ρ) asB) fun x => cond x (T.pure (.d (.bool true))) (eX q h b ρ)
  | .cmp o a b, ρ => T.bind (T.bind (eX q h a ρ) fin) fun x => T.bind (T.bind (eX q h b ρ) fin) fun y => eCmp h o x y
  | .cmp2 o p a b c, ρ => T.bind (T.bind (eX q h a ρ) asI) fun x => T.bind (T.bind (eX q h b ρ) asI) fun y => T.bind (liftO (cmpD o (.int x) (.int y))) fun t =>
    cond t (T.bind (T.bind (eX q h c ρ) asI) fun z => T.bind (liftO (cmpD p (.int y) (.int z))) fun t => T.pure (.d (.bool t))) (T.pure (.d (.bool false)))
  | .ite c a b, ρ => T.bind (T.bind (eX q h c ρ) asB) fun x => cond x (eX q h a ρ) (eX q h b ρ)
  | .fn f as, ρ => T.bind (eXs q h as ρ) fun ws => h.call (.g f) ws
  | .fnk f as _ kv, ρ => T.bind (eXs q h as ρ) fun ws => T.bind (eXs q h kv ρ) fun zs => h.call (.g f) (ws ++ zs)
  | .mk C as, ρ => T.bind (eXs q h as ρ) fun ws => h.call (.k C) ws
  | .mkv i as, ρ => T.bind (T.bind (getV ρ i) (clsOf h)) fun C => T.bind (eXs q h as ρ) fun ws => h.call (.k C) ws
  | .blt f as, ρ => T.bind (eXs q h as ρ) fun ws => eBlt q f ws
  | .isi a t, ρ => T.bind (T.bind (eX q h a ρ) fin) fun x => fun G => match (see G x).bind (isT h t) with
    | some b => some (.ok (.d (.bool b)), G)
    | none => none
  | .isi2 a t u, ρ => T.bind (T.bind (eX q h a ρ) fin) fun x => fun G => match (see G x).bind (isT h t), (see G x).bind (isT h u) with
    | some b, some c => some (.ok (.d (.bool (b || c))), G)
    | _, _ => none
  | .met o m as, ρ => T.bind (eX q h o ρ) fun w => match newOf w, decide (m ∈ muts) with
    | some u, true => lend u fun w => T.bind (kindT h m as.ne w) fun k => T.bind (eXs q h as ρ) fun ws => eMet h w m k ws
    | _, _ => T.bind (fin w) fun w => T.bind (kindT h m as.ne w) fun k => T.bind (eXs q h as ρ) fun ws => eMet h w m k ws
  | .att o f, ρ => T.bind (T.bind (eX q h o ρ) fin) fun w => eAtt h w f
  | .prp o f, ρ => T.bind (T.bind (eX q h o ρ) fin) fun w => ePrp h w f
  | .ix o i, ρ => T.bind (T.bind (eX q h o ρ) fin) fun w => T.bind (T.bind (eX q h i ρ) finD) fun k => fun G => match (see G w).bind (fun u => ixD u k) with
    | some v => some (.ok (.d v), G)
    | none => none
  | .slc o lo hi, ρ => T.bind (T.bind (eX q h o ρ) fin) fun w => T.bind (eXo q h lo ρ) fun l => T.bind (eXo q h hi ρ) fun r => fun G => match (see G w).bind (fun u => slD u l r) with
    | some v => some (.ok v, G)
    | none => none
  | .rev o, ρ => T.bind (T.bind (eX q h o ρ) fin) fun w => fun G => match see G w with
    | some (.lst xs) => some (.ok (.n (.lst xs.reverse)), G)
    | _ => none
  | .lst as, ρ => T.bind (eDs q h as ρ) fun us => T.ask (decide (us.length ≤ line)) (T.pure (.n (.lst us)))
  | .tup as, ρ => T.bind (eDs q h as ρ) fun us => T.ask (decide (us.length ≤ line)) (T.pure (.d (.tup us)))
  | .dct ps, ρ => T.bind (eDp q h ps ρ) fun ps => liftO ((dictOf ps (.dK [] [])).map Rv.n)
  | .lc e c, ρ => eCl q h c ρ (.lst []) fun l ρ' => T.bind (T.bind (eX q h e ρ') finD) fun u => addL l u
  | .dc k e c, ρ => eCl q h c ρ (.dK [] []) fun l ρ' => T.bind (T.bind (eX q h k ρ') finD) fun y => T.bind (T.bind (eX q h e ρ') finD) fun u => addD l y u
  | .ls _ _, _ => T.stuck
  | .fst as, ρ => T.bind (T.sure (eDs q h as ρ)) fun us => liftO (fstrL us)
def eXs (q : Bool) (h : Hd) : Xs → Env → T (List Rv)
  | .nil, _ => T.pure []
  | .cons a r, ρ => T.bind (T.bind (eX q h a ρ) fin) fun w => T.bind (eXs q h r ρ) fun ws => T.pure (w :: ws)
  | .star _ _, _ => T.stuck
def eDs (q : Bool) (h : Hd) : Xs → Env → T (List D)
  | .nil, _ => T.pure []
  | .cons a r, ρ => T.bind (T.bind (eX q h a ρ) finD) fun w => T.bind (eDs q h r ρ) fun ws => T.pure (w :: ws)
  | .star a r, ρ => T.bind (T.bind (T.bind (eX q h a ρ) fin) (walkD seqI)) fun us => T.bind (eDs q h r ρ) fun ws => T.pure (us ++ ws)
/-- pairs of a display; a star: a dict's -/
def eDp (q : Bool) (h : Hd) : Xp → Env → T (List D)
  | .nil, _ => T.pure []
  | .cons k v r, ρ => T.bind (T.bind (eX q h k ρ) finD) fun y => T.bind (T.bind (eX q h v ρ) finD) fun u => T.bind (eDp q h r ρ) fun ps => T.pure (.tup [y, u] :: ps)
  | .star a r, ρ => T.bind (T.bind (T.bind (eX q h a ρ) fin) (walkD pairs)) fun us => T.bind (eDp q h r ρ) fun ps => T.pure (us ++ ps)
def eXo (q : Bool) (h : Hd) : Xo → Env → T (Option Int)
  | .no, _ => T.pure none
  | .yes a, ρ => T.bind (T.bind (eX q h a ρ) asI) fun i => T.pure (some i)
def eXt (q : Bool) (h : Hd) : Xo → Env → T Bool
  | .no, _ => T.pure true
  | .yes a, ρ => T.bind (eX q h a ρ) asB
def eIt (q : Bool) (h : Hd) : It → Env → T (List D × Lk)
  | .val e, ρ => T.bind (T.bind (eX q h e ρ) fin) (walkL items)
  | .rg1 a, ρ => T.bind (T.bind (eX q h a ρ) asI) fun i => T.ask (i62 i) (T.pure (rangeD 0 i.toNat, []))
  | .rg2 a b, ρ => T.bind (T.bind (eX q h a ρ) asI) fun i => T.bind (T.bind (eX q h b ρ) asI) fun j => T.ask (i62 i && i62 j) (T.pure (rangeD i (j - i).toNat, []))
  | .rg3 _ _ _, _ => T.stuck
  | .enum e, ρ => T.bind (T.bind (T.bind (eX q h e ρ) fin) (walkL itemsL)) fun us => T.pure (enumD us.1, us.2)
  | .zip a b, ρ => T.bind (T.bind (T.bind (eX q h a ρ) fin) (walkL itemsL)) fun us => T.bind (T.bind (T.bind (eX q h b ρ) fin) (walkL itemsL)) fun vs => T.bind (held (us.2 ++ vs.2)) fun _ => T.pure (zipD us.1 vs.1, us.2 ++ vs.2)
  | .items o, ρ => T.bind (T.bind (eX q h o ρ) fin) (walkL pairsK)
  | .vals o, ρ => T.bind (T.bind (eX q h o ρ) fin) (walkL valsK)
def eCl (q : Bool) (h : Hd) : Cl → Env → D → (Nat → Env → T Unit) → T Rv
  | .one vs tg it c, ρ, u0, k => T.bind (eIt q h it ρ) fun xs => making u0 fun l => T.each xs.2 (fun x => T.bind (liftO (putT tg x (blkE vs ρ))) fun ρ1 => T.bind (eXt q h c ρ1) fun b => cond b (k l ρ1) (T.pure ())) xs.1
  | .two vs tg it c vs1 tg1 it1 c1, ρ, u0, k => T.bind (eIt q h it ρ) fun xs => making u0 fun l => T.each xs.2 (fun x => T.bind (liftO (putT tg x (blkE vs ρ))) fun ρ1 => T.bind (eXt q h c ρ1) fun b =>
      cond b (T.bind (eIt q h it1 ρ1) fun ys => T.each ys.2 (fun y => T.bind (liftO (putT tg1 y (wipe ρ1 vs1))) fun ρ2 => T.bind (eXt q h c1 ρ2) fun b1 => cond b1 (k l ρ2) (T.pure ())) ys.1) (T.pure ())) xs.1
end
end L4

set_option Elab.async false
set_option linter.all false
set_option maxRecDepth 100000
set_option maxHeartbeats 4000000
/-! Statements, calls. -/
namespace L4
open PySem PySem.Spec PyProof.Rows L2
/-- how a statement ends -/
inductive Out where
  | nx | brk | cnt | ret (w : Rv) | exc (er : Err)
abbrev TS := Option (Out × Env × Cs)
def lift {α : Type} (m : T α) (ρ : Env) (G : Cs) (k : α → Cs → TS) : TS := match m G with
  | none => none
  | some (.error er, G1) => some (.exc er, ρ, G1)
  | some (.ok x, G1) => k x G1
/-- another slot holds the cell -/
def used (l : Nat) : Nat → Env → Bool
  | _, [] => false
  | 0, _ :: r => used.go l r
  | i + 1, w :: r => (match w with | some (.r l') => decide (l' = l) | _ => false) || used l i r
where go (l : Nat) : Env → Bool
  | [] => false
  | w :: r => (match w with | some (.r l') => decide (l' = l) | _ => false) || go l r
/-- i = w -/
def store (b i : Nat) (keep : Bool) (w : Rv) (ρ : Env) (G : Cs) : Env × Cs := match keep, w with
  | true, .n u => match ρ[i]? with
    | some (some (.r l)) => if b ≤ l ∧ l < G.length ∧ used l i ρ = false then (ρ, G.set l u) else (ρ.set i (some (.r G.length)), G ++ [u])
    | _ => (ρ.set i (some (.r G.length)), G ++ [u])
  | true, w => (ρ.set i (some w), G)
  | false, w => (ρ.set i (some w.frz), G)
def forL (body : Env → Cs → TS) (tg : Tg) (lk : Lk) : List D → Env → Cs → TS
  | [], ρ, G => cond (heldB lk G) (some (.nx, ρ, G)) none
  | x :: xs, ρ, G => cond (heldB lk G) (match putT tg x ρ with
    | none => none
    | some ρ1 => match body ρ1 G with
      | some (.nx, ρ2, G2) => forL body tg lk xs ρ2 G2
      | some (.cnt, ρ2, G2) => forL body tg lk xs ρ2 G2
      | some (.brk, ρ2, G2) => some (.nx, ρ2, G2)
      | r => r) none
def whN (c : Env → T Bool) (body : Env → Cs → TS) : Nat → Env → Cs → TS
  | 0, _, _ => none
  | n + 1, ρ, G => lift (c ρ) ρ G fun t G1 => cond t (match body ρ G1 with
    | some (.nx, ρ2, G2) => whN c body n ρ2 G2
    | some (.cnt, ρ2, G2) => whN c body n ρ2 G2
    | some (.brk, ρ2, G2) => some (.nx, ρ2, G2)
    | r => r) (some (.nx, ρ, G1))
theorem whN_succ {c : Env → T Bool} {body : Env → Cs → TS} : ∀ {n : Nat} {ρ : Env} {G : Cs} {r : Out × Env × Cs}, whN c body n ρ G = some r → whN c body (n + 1) ρ G = some r
  | 0, _, _, _, h => by cases h
  | n + 1, ρ, G, r, h => by
    unfold whN lift at h
    unfold whN lift
    cases q : c ρ G with
    | none => rw [q] at h; cases h
    | some p =>
      obtain ⟨p1, p2⟩ := p
      rw [q] at h
      cases p1 with
      | error e => exact h
      | ok t =>
        dsimp only at h ⊢
        cases t with
        | false => exact h
        | true =>
          dsimp only [cond] at h ⊢
          cases q2 : body ρ p2 with
          | none => rw [q2] at h; cases h
          | some z =>
            obtain ⟨o, ρ2, G2⟩ := z
            rw [q2] at h
            cases o with
            | nx => exact whN_succ h
            | cnt => exact whN_succ h
            | _ => exact h
theorem whN_le {c : Env → T Bool} {body : Env → Cs → TS} {n m : Nat} {ρ : Env} {G : Cs} {r : Out × Env × Cs} (h : whN c body n ρ G = some r) (l : n ≤ m) : whN c body m ρ G = some r := by
  induction l with
  | refl => exact h
  | step _ ih => exact whN_succ ih
open Classical in
/-- while, as long as it takes -/
noncomputable def wh (c : Env → T Bool) (body : Env → Cs → TS) (ρ : Env) (G : Cs) : TS := if h : ∃ n r, whN c body n ρ G = some r then some (Classical.choose (Classical.choose_spec h)) else none
theorem wh_some {c : Env → T Bool} {body : Env → Cs → TS} {ρ : Env} {G : Cs} {r : Out × Env × Cs} : wh c body ρ G = some r ↔ ∃ n, whN c body n ρ G = some r := by
  unfold wh
  constructor
  · intro h
    split at h
    · rename_i hh
      cases h
      exact ⟨_, Classical.choose_spec (Classical.choose_spec hh)⟩
    · cases h
  · rintro ⟨n, hn⟩
    have hh : ∃ n r, whN c body n ρ G = some r := ⟨n, r, hn⟩
    rw [dif_pos hh]
    have h2 := Classical.choose_spec (Classical.choose_spec hh)
    have a := whN_le hn (Nat.le_max_left n (Classical.choose hh))
    have b := whN_le h2 (Nat.le_max_right n (Classical.choose hh))
    rw [a] at b
    exact b.symm
theorem wh_eq {c : Env → T Bool} {body : Env → Cs → TS} {ρ : Env} {G : Cs} : wh c body ρ G = lift (c ρ) ρ G fun t G1 => cond t (match body ρ G1 with
    | some (.nx, ρ2, G2) => wh c body ρ2 G2
    | some (.cnt, ρ2, G2) => wh c body ρ2 G2
    | some (.brk, ρ2, G2) => some (.nx, ρ2, G2)
    | r => r) (some (.nx, ρ, G1)) := by
  apply Option.ext
  intro r
  rw [wh_some]
  constructor
  · rintro ⟨n, h⟩
    cases n with
    | zero => cases h
    | succ n =>
      unfold whN lift at h
      unfold lift
      cases q : c ρ G with
      | none => rw [q] at h; cases h
      | some p =>
        obtain ⟨p1, p2⟩ := p
        rw [q] at h
        cases p1 with
        | error e => exact h
        | ok t =>
          dsimp only at h ⊢
          cases t with
          | false => exact h
          | true =>
            dsimp only [cond] at h ⊢
            cases q2 : body ρ p2 with
            | none => rw [q2] at h; cases h
            | some z =>
              obtain ⟨o, ρ2, G2⟩ := z
              rw [q2] at h
              cases o with
              | nx => exact wh_some.mpr ⟨n, h⟩
              | cnt => exact wh_some.mpr ⟨n, h⟩
              | _ => exact h
  · intro h
    unfold lift at h
    cases q : c ρ G with
    | none => rw [q] at h; cases h
    | some p =>
      obtain ⟨p1, p2⟩ := p
      rw [q] at h
      cases p1 with
      | error e => exact ⟨1, by unfold whN lift; rw [q]; exact h⟩
      | ok t =>
        dsimp only at h
        cases t with
        | false => exact ⟨1, by unfold whN lift; rw [q]; exact h⟩
        | true =>
          dsimp only [cond] at h
          cases q2 : body ρ p2 with
          | none => rw [q2] at h; cases h
          | some z =>
            obtain ⟨o, ρ2, G2⟩ := z
            rw [q2] at h
            cases o with
            | nx =>
              obtain ⟨n, hn⟩ := wh_some.mp h
              exact ⟨n + 1, by unfold whN lift; rw [q]; dsimp only [cond]; rw [q2]; exact hn⟩
            | cnt =>
              obtain ⟨n, hn⟩ := wh_some.mp h
              exact ⟨n + 1, by unfold whN lift; rw [q]; dsimp only [cond]; rw [q2]; exact hn⟩
            | _ => exact ⟨1, by unfold whN lift; rw [q]; dsimp only [cond]; rw [q2]; exact h⟩
/-- no exception is kept behind its clause -/
def clr (ρ : Env) : Env := ρ.map fun w => match w with
  | some (.ex _) => none
  | w => w
/-- what a clause's suite leaves -/
def behind (i : Option Nat) : TS → TS
  | some (.nx, ρ1, G1) => some (.nx, clr (match i with | some i => ρ1.set i none | none => ρ1), G1)
  | some (.brk, ρ1, G1) => some (.brk, clr (match i with | some i => ρ1.set i none | none => ρ1), G1)
  | some (.cnt, ρ1, G1) => some (.cnt, clr (match i with | some i => ρ1.set i none | none => ρ1), G1)
  | some (.ret (.ex _), _, _) => none
  | some (.ret w, ρ1, G1) => some (.ret w, ρ1, G1)
  | _ => none
/-- x, y = a, b: what is kept is a cell at once -/
def parK : List Bool → Xs → (X → T Rv) → T (List Rv)
  | [], .nil, _ => T.pure []
  | k :: ks, .cons a r, f => T.bind (f a) fun w => T.bind (fun G => match k, w with
      | true, .n u => some (.ok (.r G.length), G ++ [u])
      | true, w => some (.ok w, G)
      | false, w => some (.ok w.frz, G)) fun w => T.bind (parK ks r f) fun ws => T.pure (w :: ws)
  | _, _, _ => T.stuck
def setAll : List Nat → List Rv → Env → Option Env
  | [], [], ρ => some ρ
  | i :: is, w :: ws, ρ => setAll is ws (ρ.set i (some w))
  | _, _, _ => none
def tupD : D → Option (List D)
  | .tup xs => some xs
  | _ => none
/-- o[k] = v -/
def putD (u k v : D) : Option D := match u, k with
  | .lst xs, .int i => (ixN xs.length i).map fun j => .lst (xs.set j v)
  | .dK ks vs, k => match toKey k with
    | some k => askO (decide (ks.length < line)) (some (.dK (put_ k v ks vs).1 (put_ k v ks vs).2))
    | none => none
  | .dT ks vs, k => match toTKey k with
    | some k => askO (decide (ks.length < line)) (some (.dT (put_ k v ks vs).1 (put_ k v ks vs).2))
    | none => none
  | _, _ => none
/-- cells that are walked are not used again -/
def lkb (b : Nat) : Lk → Nat
  | [] => b
  | p :: r => max (p.1 + 1) (lkb b r)
mutual
noncomputable def eS (q : Bool) (h : Hd) (b : Nat) : S → Env → Cs → TS
  | .set i keep e, ρ, G => lift (eX q h e ρ) ρ G fun w G1 => some (.nx, store b i keep w ρ G1)
  | .tups is e, ρ, G => lift (T.bind (T.bind (eX q h e ρ) fin) (walkD tupD)) ρ G fun xs G1 => match putAll is xs ρ with
    | some ρ1 => some (.nx, ρ1, G1)
    | none => none
  | .par is ks es, ρ, G => lift (parK ks es fun a => eX q h a ρ) ρ G fun ws G1 => match setAll is ws ρ with
    | some ρ1 => some (.nx, ρ1, G1)
    | none => none
  | .sub o i e, ρ, G => lift (T.bind (T.bind (eX q h e ρ) finD) fun v => T.bind (T.bind (eX q h o ρ) fin) fun w => T.bind (T.bind (eX q h i ρ) finD) fun k => fun G => match w with
      | .r l => match (G[l]?).bind (fun u => putD u k v) with
        | some u => some (.ok (), G.set l u)
        | none => none
      | _ => none) ρ G fun _ G1 => some (.nx, ρ, G1)
  | .att o f e, ρ, G => lift (T.bind (T.bind (eX q h e ρ) finD) fun v => T.bind (T.bind (eX q h o ρ) fin) fun w => fun G => match w with
      | .r l => match G[l]? with
        | some (.ins C ns vs) => askO (h.cls C && decide (ns.length < 900)) (some (.ok (), G.set l (.ins C (putF f v ns vs).1 (putF f v ns vs).2)))
        | _ => none
      | _ => none) ρ G fun _ G1 => some (.nx, ρ, G1)
  | .aug i o e, ρ, G => lift (T.bind (T.bind (getV ρ i) asI) fun x => T.bind (T.bind (eX q h e ρ) asI) fun y => liftO (intBin o x y)) ρ G fun v G1 => some (.nx, ρ.set i (some (.d v)), G1)
  | .ex e, ρ, G => lift (eX q h e ρ) ρ G fun _ G1 => some (.nx, ρ, G1)
  | .ite c a r, ρ, G => lift (T.bind (eX q h c ρ) asB) ρ G fun t G1 => cond t (eSs q h b a ρ G1) (eSs q h b r ρ G1)
  | .while c a, ρ, G => wh (fun ρ => T.bind (eX q h c ρ) asB) (fun ρ G => eSs q h b a ρ G) ρ G
  | .for tg it a, ρ, G => lift (eIt q h it ρ) ρ G fun xs G1 => forL (fun ρ G => eSs q h (lkb b xs.2) a ρ G) tg xs.2 xs.1 ρ G1
  | .ret e, ρ, G => lift (eX q h e ρ) ρ G fun w G1 => some (.ret w, ρ, G1)
  | .retN, ρ, G => some (.ret (.d .non), ρ, G)
  | .rai C ns as, ρ, G => lift (eDs q h as ρ) ρ G fun us G1 => cond (decide (us.length = ns.length)) (some (.exc ⟨C, ns.reverse, us.reverse⟩, ρ, G1)) none
  | .try a hs, ρ, G => match eSs q h b a ρ G with
    | some (.exc er, ρ1, G1) => eHs q h b hs er ρ1 G1
    | r => r
  | .brk, ρ, G => some (.brk, ρ, G)
  | .cnt, ρ, G => some (.cnt, ρ, G)
  | .pas, ρ, G => some (.nx, ρ, G)
noncomputable def eSs (q : Bool) (h : Hd) (b : Nat) : Ss → Env → Cs → TS
  | .nil, ρ, G => some (.nx, ρ, G)
  | .cons s r, ρ, G => match eS q h b s ρ G with
    | some (.nx, ρ1, G1) => eSs q h b r ρ1 G1
    | r => r
noncomputable def eHs (q : Bool) (h : Hd) (b : Nat) : Hs → Err → Env → Cs → TS
  | .nil, er, ρ, G => some (.exc er, ρ, G)
  | .cons C i a r, er, ρ, G => match h.exm C er.cls with
    | some true => behind i (eSs q h b a (match i with | some i => ρ.set i (some (.ex er)) | none => ρ) G)
    | some false => eHs q h b r er ρ G
    | none => none
end
/-- a def: parameters, slots, defaults, body -/
structure Fd where
  np : Nat
  n : Nat
  dfl : List D
  body : Ss
structure Pg where
  fn : Fi → Option Fd
  cls : Str → Bool
  exm : Str → Str → Option Bool
/-- what a def hands back, its own cells gone -/
def handed (b : Nat) (G : Cs) : Rv → Option Rv
  | .d u => some (.d u)
  | .n u => some (.n u)
  | .r l => if l < b then some (.r l) else (G[l]?).map Rv.n
  | .ex _ => none
def okA : Rv → Bool
  | .d _ => true
  | .r _ => true
  | _ => false
def argsOf (fd : Fd) (ws : List Rv) : Option (List Rv) := cond (ws.all okA) (if ws.length = fd.np then some ws else if ws.length + fd.dfl.length = fd.np then some (ws ++ fd.dfl.map Rv.d) else none) none
def start (fd : Fd) (ws : List Rv) : Env := ws.map some ++ List.replicate (fd.n - ws.length) none
noncomputable def runF (q : Bool) (h : Hd) (fd : Fd) (ws : List Rv) : T Rv := fun G => match eSs q h G.length fd.body (start fd ws) G with
  | some (.nx, _, G1) => some (.ok (.d .non), G1.take G.length)
  | some (.ret w, _, G1) => match handed G.length G1 w with
    | some w => some (.ok w, G1.take G.length)
    | none => none
  | some (.exc er, _, G1) => some (.error er, G1.take G.length)
  | _ => none
/-- a class called -/
noncomputable def runK (q : Bool) (h : Hd) (fd : Fd) (C : Str) (ws : List Rv) : T Rv := fun G => match runF q h fd (.r G.length :: ws) (G ++ [.ins C [] []]) with
  | some (.ok (.d .non), G1) => match G1[G.length]? with
    | some u => some (.ok (.n u), G1.take G.length)
    | none => none
  | some (.error er, G1) => some (.error er, G1.take G.length)
  | _ => none
noncomputable def call (Γ : Pg) (q : Bool) : Nat → Fi → List Rv → T Rv
  | 0 => fun _ _ => T.stuck
  | n + 1 => fun fi ws => match Γ.fn fi with
    | none => T.stuck
    | some fd => match fi with
      | .k C => match argsOf { fd with np := fd.np - 1 } ws with
        | some ws => runK q ⟨call Γ q n, Γ.cls, fun fi => (Γ.fn fi).isSome, Γ.exm⟩ fd C ws
        | none => T.stuck
      | .c C _ => match argsOf { fd with np := fd.np - 1 } ws with
        | some ws => runF q ⟨call Γ q n, Γ.cls, fun fi => (Γ.fn fi).isSome, Γ.exm⟩ fd (.d (.cl C) :: ws)
        | none => T.stuck
      | _ => match argsOf fd ws with
        | some ws => runF q ⟨call Γ q n, Γ.cls, fun fi => (Γ.fn fi).isSome, Γ.exm⟩ fd ws
        | none => T.stuck
/-- the defs, n calls deep -/
noncomputable def hd (Γ : Pg) (q : Bool) (n : Nat) : Hd := ⟨call Γ q n, Γ.cls, fun fi => (Γ.fn fi).isSome, Γ.exm⟩
end L4

set_option Elab.async false
set_option linter.all false
set_option maxRecDepth 100000
set_option maxHeartbeats 4000000
/-! The number of the cells. -/
namespace L4
open PySem PySem.Spec PyProof.Rows L2
/-- as many cells as before -/
def Lc {α : Type} (m : T α) : Prop := ∀ G r G', m G = some (r, G') → G'.length = G.length
section
variable {α β : Type}
theorem Lc.pure (x : α) : Lc (T.pure x) := fun G r G' h => by cases h; rfl
theorem Lc.stuck : Lc (T.stuck : T α) := fun G r G' h => by cases h
theorem Lc.bind {m : T α} {k : α → T β} (h1 : Lc m) (h2 : ∀ x, Lc (k x)) : Lc (T.bind m k) := fun G r G' h => by
  rcases T.bind_ok h with ⟨e, h3, _⟩ | ⟨x, G2, h3, h4⟩
  · exact h1 _ _ _ h3
  · rw [h2 x _ _ _ h4, h1 _ _ _ h3]
theorem Lc.ask {c : Bool} {m : T α} (h1 : Lc m) : Lc (T.ask c m) := fun G r G' h => h1 _ _ _ (T.ask_ok h).2
theorem Lc.cond {c : Bool} {m n : T α} (h1 : Lc m) (h2 : Lc n) : Lc (cond c m n) := by cases c <;> assumption
/-- what leaves the cells as they are -/
theorem Lc.same {m : T α} (h : ∀ G r G', m G = some (r, G') → G' = G) : Lc m := fun G r G' e => by rw [h _ _ _ e]
theorem Lc.liftO (o : Option α) : Lc (liftO o) := by
  cases o with
  | none => exact .stuck
  | some x => exact .pure x
theorem Lc.fin (w : Rv) : Lc (fin w) := .pure _
theorem Lc.finD (w : Rv) : Lc (finD w) := by unfold L4.finD; split <;> first | exact .pure _ | exact .stuck
theorem Lc.asB (w : Rv) : Lc (asB w) := by unfold L4.asB; split <;> first | exact .pure _ | exact .stuck
theorem Lc.asI (w : Rv) : Lc (asI w) := by unfold L4.asI; split <;> first | exact .pure _ | exact .stuck
theorem Lc.clsOf (h : Hd) (w : Rv) : Lc (clsOf h w) := by
  unfold L4.clsOf
  split
  · exact .ask (.pure _)
  · exact .stuck
theorem Lc.getV (ρ : Env) (i : Nat) : Lc (getV ρ i) := .same fun G r G' e => by
  unfold L4.getV at e
  split at e <;> cases e
  rfl
theorem Lc.walkL (f : D → Option (List D)) (w : Rv) : Lc (walkL f w) := .same fun G r G' e => by
  unfold L4.walkL at e
  split at e
  · split at e <;> cases e
    rfl
  · split at e
    · split at e <;> cases e
      rfl
    · cases e
  · cases e
theorem Lc.walkD (f : D → Option (List D)) (w : Rv) : Lc (walkD f w) := .same fun G r G' e => by
  unfold L4.walkD at e
  split at e <;> cases e
  rfl
theorem Lc.held (lk : Lk) : Lc (held lk) := .same fun G r G' e => by
  unfold L4.held at e
  cases q : heldB lk G <;> rw [q] at e <;> cases e
  rfl
theorem Lc.sure {m : T α} (h : Lc m) : Lc (T.sure m) := fun G r G' e => by
  unfold T.sure at e
  split at e
  · rename_i w G1 e1
    cases e
    exact h _ _ _ e1
  · cases e
theorem Lc.each {lk : Lk} {f : α → T Unit} (h : ∀ x, Lc (f x)) : ∀ xs, Lc (T.each lk f xs)
  | [] => .held lk
  | x :: xs => by
    unfold T.each
    exact .bind (.held lk) fun _ => .bind (.sure (h x)) fun _ => Lc.each h xs
theorem Lc.making {u : D} {f : Nat → T Unit} (h1 : ∀ l, Lc (f l)) : Lc (making u f) := fun G r G' e => by
  unfold L4.making at e
  split at e
  · rename_i w G1 e1
    split at e
    · cases e
      have := h1 _ _ _ _ e1
      rw [List.length_append, List.length_singleton] at this
      rw [List.length_take, this]
      omega
    · cases e
  · rename_i er G1 e1
    cases e
    have := h1 _ _ _ _ e1
    rw [List.length_append, List.length_singleton] at this
    rw [List.length_take, this]
    omega
  · cases e
theorem Lc.addL (l : Nat) (v : D) : Lc (addL l v) := fun G r G' e => by
  unfold L4.addL at e
  split at e
  · unfold askO at e
    rename_i us _
    cases q : decide (us.length < line) <;> rw [q] at e <;> cases e
    exact List.length_set ..
  · cases e
theorem Lc.addD (l : Nat) (k v : D) : Lc (addD l k v) := fun G r G' e => by
  unfold L4.addD at e
  split at e
  · unfold askO at e
    rename_i ks _ _ _ _
    cases q : decide (List.length _ < line) <;> rw [q] at e <;> cases e
    exact List.length_set ..
  · cases e
end
def HLc (h : Hd) : Prop := ∀ fi ws, Lc (h.call fi ws)
section
variable {q : Bool} {h : Hd}
theorem Lc.eBlt (x : Bf) (as : List Rv) : Lc (eBlt q x as) := .same fun G r G' e => by
  unfold L4.eBlt at e
  split at e <;> cases e
  rfl
theorem Lc.eBin (H : HLc h) (o : Operator) (x y : Rv) : Lc (eBin h o x y) := fun G r G' e => by
  unfold L4.eBin at e
  split at e
  · split at e
    · exact (H _ _).ask _ _ _ e
    · cases e
  · split at e <;> cases e
    rfl
  · cases e
theorem Lc.eNeg (H : HLc h) (x : Rv) : Lc (eNeg h x) := fun G r G' e => by
  unfold L4.eNeg at e
  split at e
  · cases e; rfl
  · exact (H _ _).ask _ _ _ e
  · cases e
theorem Lc.eCmp (H : HLc h) (o : CmpOp) (x y : Rv) : Lc (eCmp h o x y) := fun G r G' e => by
  unfold L4.eCmp at e
  split at e
  · split at e
    · refine Lc.bind (H _ _).ask (fun w => ?_) _ _ _ e
      split <;> first | exact .pure _ | exact .stuck
    · split at e <;> cases e <;> rfl
  · split at e <;> cases e
    rfl
  · cases e
theorem Lc.kindT (m : Str) (b : Bool) (w : Rv) : Lc (kindT h m b w) := .same fun G r G' e => by
  unfold L4.kindT at e
  split at e
  · rename_i u _
    cases hk : knows h m b u <;> rw [hk] at e <;> cases e
    rfl
  · cases e
theorem Lc.eM3 (o : Rv) (m : Str) (as : List Rv) (u : D) : Lc (eM3 o m as u) := fun G r G' e => by
  unfold L4.eM3 at e
  split at e
  · split at e
    · split at e <;> cases e
      exact List.length_set ..
    · cases e
  · split at e
    · split at e <;> cases e
      rfl
    · cases e
theorem Lc.eM2 (H : HLc h) (o : Rv) (m : Str) (as : List Rv) (u : D) : Lc (eM2 h o m as u) := by
  unfold L4.eM2
  split
  · exact H _ _
  · exact H _ _
  · exact .eM3 _ _ _ _
theorem Lc.eMet (H : HLc h) (o : Rv) (m : Str) (k : Kd) (as : List Rv) : Lc (eMet h o m k as) := fun G r G' e => by
  unfold L4.eMet at e
  split at e
  · rename_i u hu
    cases hk : decide (kd u = k) with
    | false => rw [hk] at e; cases e
    | true =>
      rw [hk] at e
      exact Lc.eM2 H _ _ _ _ _ _ _ e
  · cases e
theorem Lc.eAtt (H : HLc h) (o : Rv) (f : Str) : Lc (eAtt h o f) := fun G r G' e => by
  unfold L4.eAtt at e
  split at e
  · split at e <;> cases e
    rfl
  · split at e
    · split at e
      · unfold askO at e
        cases q2 : h.cls _ <;> rw [q2] at e <;> cases e
        rfl
      · cases e
    · cases e
theorem Lc.ePrp (H : HLc h) (o : Rv) (f : Str) : Lc (ePrp h o f) := fun G r G' e => by
  unfold L4.ePrp at e
  split at e
  · split at e
    · rename_i w G1 e1
      cases e
      exact (H _ _).ask _ _ _ e1
    · cases e
  · cases e
theorem Lc.lend {u : D} {f : Rv → T Rv} (h1 : ∀ w, Lc (f w)) : Lc (lend u f) := fun G r G' e => by
  unfold L4.lend at e
  split at e
  · rename_i r' G1 e1
    cases e
    have := h1 _ _ _ _ e1
    rw [List.length_append, List.length_singleton] at this
    rw [List.length_take, this]
    omega
  · rename_i r' G1 e1
    cases e
    have := h1 _ _ _ _ e1
    rw [List.length_append, List.length_singleton] at this
    rw [List.length_take, this]
    omega
  · cases e
mutual
theorem lcX (H : HLc h) : ∀ (x : X) (ρ : Env), Lc (eX q h x ρ)
  | .con u, _ => .pure _
  | .var i, ρ => .getV ρ i
  | .glo _ u, _ => .pure _
  | .bin o a b, ρ => .bind (.bind (lcX H a ρ) Lc.fin) fun _ => .bind (.bind (lcX H b ρ) Lc.fin) fun _ => .eBin H _ _ _
  | .neg a, ρ => .bind (.bind (lcX H a ρ) Lc.fin) fun _ => .eNeg H _
  | .nt a, ρ => .bind (.bind (lcX H a ρ) Lc.asB) fun _ => .pure _
  | .and a b, ρ => .bind (.bind (lcX H a ρ) Lc.asB) fun _ => .cond (lcX H b ρ) (.pure _)
  | .or a b, ρ => .bind (.bind (lcX H a ρ) Lc.asB) fun _ => .cond (.pure _) (lcX H b ρ)
  | .cmp o a b, ρ => .bind (.bind (lcX H a ρ) Lc.fin) fun _ => .bind (.bind (lcX H b ρ) Lc.fin) fun _ => .eCmp H _ _ _
  | .cmp2 o p a b c, ρ => .bind (.bind (lcX H a ρ) Lc.asI) fun _ => .bind (.bind (lcX H b ρ) Lc.asI) fun _ => .bind (.liftO _) fun _ => .cond (.bind (.bind (lcX H c ρ) Lc.asI) fun _ => .bind (.liftO _) fun _ => .pure _) (.pure _)
  | .ite c a b, ρ => .bind (.bind (lcX H c ρ) Lc.asB) fun _ => .cond (lcX H a ρ) (lcX H b ρ)
  | .fn f as, ρ => .bind (lcXs H as ρ) fun _ => H _ _
  | .fnk f as _ kv, ρ => .bind (lcXs H as ρ) fun _ => .bind (lcXs H kv ρ) fun _ => H _ _
  | .mk C as, ρ => .bind (lcXs H as ρ) fun _ => H _ _
  | .mkv i as, ρ => .bind (.bind (.getV ρ i) (Lc.clsOf h)) fun _ => .bind (lcXs H as ρ) fun _ => H _ _
  | .blt f as, ρ => .bind (lcXs H as ρ) fun _ => .eBlt _ _
  | .isi a t, ρ => .bind (.bind (lcX H a ρ) Lc.fin) fun x => .same fun G r G' e => by split at e <;> cases e; rfl
  | .isi2 a t u, ρ => .bind (.bind (lcX H a ρ) Lc.fin) fun x => .same fun G r G' e => by split at e <;> cases e; rfl
  | .met o m as, ρ => .bind (lcX H o ρ) fun w => by
    split
    · exact .lend fun w => .bind (.kindT _ _ _) fun _ => .bind (lcXs H as ρ) fun _ => .eMet H _ _ _ _
    · exact .bind (.fin _) fun _ => .bind (.kindT _ _ _) fun _ => .bind (lcXs H as ρ) fun _ => .eMet H _ _ _ _
  | .att o f, ρ => .bind (.bind (lcX H o ρ) Lc.fin) fun _ => .eAtt H _ _
  | .prp o f, ρ => .bind (.bind (lcX H o ρ) Lc.fin) fun _ => .ePrp H _ _
  | .ix o i, ρ => .bind (.bind (lcX H o ρ) Lc.fin) fun w => .bind (.bind (lcX H i ρ) Lc.finD) fun k => .same fun G r G' e => by split at e <;> cases e; rfl
  | .slc o lo hi, ρ => .bind (.bind (lcX H o ρ) Lc.fin) fun w => .bind (lcXo H lo ρ) fun l => .bind (lcXo H hi ρ) fun r => .same fun G r G' e => by split at e <;> cases e; rfl
  | .rev o, ρ => .bind (.bind (lcX H o ρ) Lc.fin) fun w => .same fun G r G' e => by split at e <;> cases e; rfl
  | .lst as, ρ => .bind (lcDs H as ρ) fun _ => .ask (.pure _)
  | .tup as, ρ => .bind (lcDs H as ρ) fun _ => .ask (.pure _)
  | .dct ps, ρ => .bind (lcDp H ps ρ) fun _ => .liftO _
  | .lc e c, ρ => lcCl H c ρ _ fun l ρ' => .bind (.bind (lcX H e ρ') Lc.finD) fun _ => .addL _ _
  | .dc k e c, ρ => lcCl H c ρ _ fun l ρ' => .bind (.bind (lcX H k ρ') Lc.finD) fun _ => .bind (.bind (lcX H e ρ') Lc.finD) fun _ => .addD _ _ _
  | .ls _ _, _ => .stuck
  | .fst as, ρ => .bind (.sure (lcDs H as ρ)) fun _ => .liftO _
theorem lcXs (H : HLc h) : ∀ (x : Xs) (ρ : Env), Lc (eXs q h x ρ)
  | .nil, _ => .pure _
  | .cons a r, ρ => .bind (.bind (lcX H a ρ) Lc.fin) fun _ => .bind (lcXs H r ρ) fun _ => .pure _
  | .star _ _, _ => .stuck
theorem lcDs (H : HLc h) : ∀ (x : Xs) (ρ : Env), Lc (eDs q h x ρ)
  | .nil, _ => .pure _
  | .cons a r, ρ => .bind (.bind (lcX H a ρ) Lc.finD) fun _ => .bind (lcDs H r ρ) fun _ => .pure _
  | .star a r, ρ => .bind (.bind (.bind (lcX H a ρ) Lc.fin) (Lc.walkD _)) fun _ => .bind (lcDs H r ρ) fun _ => .pure _
theorem lcDp (H : HLc h) : ∀ (x : Xp) (ρ : Env), Lc (eDp q h x ρ)
  | .nil, _ => .pure _
  | .cons k v r, ρ => .bind (.bind (lcX H k ρ) Lc.finD) fun _ => .bind (.bind (lcX H v ρ) Lc.finD) fun _ => .bind (lcDp H r ρ) fun _ => .pure _
  | .star a r, ρ => .bind (.bind (.bind (lcX H a ρ) Lc.fin) (Lc.walkD _)) fun _ => .bind (lcDp H r ρ) fun _ => .pure _
theorem lcXo (H : HLc h) : ∀ (x : Xo) (ρ : Env), Lc (eXo q h x ρ)
  | .no, _ => .pure _
  | .yes a, ρ => .bind (.bind (lcX H a ρ) Lc.asI) fun _ => .pure _
theorem lcXt (H : HLc h) : ∀ (x : Xo) (ρ : Env), Lc (eXt q h x ρ)
  | .no, _ => .pure _
  | .yes a, ρ => .bind (lcX H a ρ) Lc.asB
theorem lcIt (H : HLc h) : ∀ (x : It) (ρ : Env), Lc (eIt q h x ρ)
  | .val e, ρ => .bind (.bind (lcX H e ρ) Lc.fin) (Lc.walkL _)
  | .rg1 a, ρ => .bind (.bind (lcX H a ρ) Lc.asI) fun _ => .ask (.pure _)
  | .rg2 a b, ρ => .bind (.bind (lcX H a ρ) Lc.asI) fun _ => .bind (.bind (lcX H b ρ) Lc.asI) fun _ => .ask (.pure _)
  | .rg3 _ _ _, _ => .stuck
  | .enum e, ρ => .bind (.bind (.bind (lcX H e ρ) Lc.fin) (Lc.walkL _)) fun _ => .pure _
  | .zip a b, ρ => .bind (.bind (.bind (lcX H a ρ) Lc.fin) (Lc.walkL _)) fun _ => .bind (.bind (.bind (lcX H b ρ) Lc.fin) (Lc.walkL _)) fun _ => .bind (.held _) fun _ => .pure _
  | .items o, ρ => .bind (.bind (lcX H o ρ) Lc.fin) (Lc.walkL _)
  | .vals o, ρ => .bind (.bind (lcX H o ρ) Lc.fin) (Lc.walkL _)
theorem lcCl (H : HLc h) : ∀ (x : Cl) (ρ : Env) (u : D) {k : Nat → Env → T Unit}, (∀ l ρ, Lc (k l ρ)) → Lc (eCl q h x ρ u k)
  | .one vs tg it c, ρ, u, k, hk => .bind (lcIt H it ρ) fun _ => .making fun _ => .each (fun _ => .bind (.liftO _) fun _ => .bind (lcXt H c _) fun _ => .cond (hk _ _) (.pure _)) _
  | .two vs tg it c vs1 tg1 it1 c1, ρ, u, k, hk => .bind (lcIt H it ρ) fun _ => .making fun _ => .each (fun _ => .bind (.liftO _) fun _ => .bind (lcXt H c _) fun _ =>
      .cond (.bind (lcIt H it1 _) fun _ => .each (fun _ => .bind (.liftO _) fun _ => .bind (lcXt H c1 _) fun _ => .cond (hk _ _) (.pure _)) _) (.pure _)) _
end
end
theorem behind_ok {i : Option Nat} {t : TS} {o : Out} {ρ : Env} {G : Cs} (h : behind i t = some (o, ρ, G)) : ∃ o' ρ', t = some (o', ρ', G) := by
  unfold behind at h
  split at h <;> first | (cases h; exact ⟨_, _, rfl⟩) | cases h
/-- no fewer cells than before -/
def Gw (t : TS) (n : Nat) : Prop := ∀ o ρ G, t = some (o, ρ, G) → n ≤ G.length
theorem Gw.lift {α : Type} {m : T α} {ρ : Env} {G : Cs} {k : α → Cs → TS} (h1 : ∀ r G', m G = some (r, G') → G.length ≤ G'.length) (h2 : ∀ x G1, G.length ≤ G1.length → Gw (k x G1) G.length) : Gw (lift m ρ G k) G.length := fun o ρ' G' e => by
  unfold L4.lift at e
  split at e
  · cases e
  · rename_i er G1 e1
    cases e
    exact h1 _ _ e1
  · rename_i x G1 e1
    exact h2 x G1 (h1 _ _ e1) _ _ _ e
theorem Gw.some {o : Out} {ρ : Env} {G : Cs} {n : Nat} (h : n ≤ G.length) : Gw (some (o, ρ, G)) n := fun _ _ _ e => by cases e; exact h
theorem Gw.none {n : Nat} : Gw none n := fun _ _ _ e => by cases e
theorem Gw.le {t : TS} {n m : Nat} (h : Gw t n) (l : m ≤ n) : Gw t m := fun o ρ G e => Nat.le_trans l (h o ρ G e)
theorem gw_forL {body : Env → Cs → TS} {tg : Tg} {lk : Lk} (hb : ∀ ρ G, Gw (body ρ G) G.length) : ∀ (xs : List D) (ρ : Env) (G : Cs), Gw (forL body tg lk xs ρ G) G.length
  | [], ρ, G => by
    unfold forL
    cases heldB lk G
    · exact .none
    · exact .some (Nat.le_refl _)
  | x :: xs, ρ, G => by
    unfold forL
    cases heldB lk G
    · exact .none
    dsimp only [cond]
    split
    · exact .none
    · rename_i ρ1 _
      split
      · rename_i ρ2 G2 e
        exact (gw_forL hb xs ρ2 G2).le (hb _ _ _ _ _ e)
      · rename_i ρ2 G2 e
        exact (gw_forL hb xs ρ2 G2).le (hb _ _ _ _ _ e)
      · rename_i ρ2 G2 e
        exact .some (hb _ _ _ _ _ e)
      · exact hb ρ1 G
theorem gw_whN {c : Env → T Bool} {body : Env → Cs → TS} (hc : ∀ ρ, Lc (c ρ)) (hb : ∀ ρ G, Gw (body ρ G) G.length) : ∀ (n : Nat) (ρ : Env) (G : Cs), Gw (whN c body n ρ G) G.length
  | 0, _, _ => .none
  | n + 1, ρ, G => by
    unfold whN
    refine .lift (fun r G' e => by rw [hc _ _ _ _ e]; exact Nat.le_refl _) fun t G1 l => ?_
    cases t with
    | false => exact .some l
    | true =>
      dsimp only [cond]
      split
      · rename_i ρ2 G2 e
        exact (gw_whN hc hb n ρ2 G2).le (Nat.le_trans l (hb _ _ _ _ _ e))
      · rename_i ρ2 G2 e
        exact (gw_whN hc hb n ρ2 G2).le (Nat.le_trans l (hb _ _ _ _ _ e))
      · rename_i ρ2 G2 e
        exact .some (Nat.le_trans l (hb _ _ _ _ _ e))
      · exact (hb ρ G1).le l
theorem gw_wh {c : Env → T Bool} {body : Env → Cs → TS} (hc : ∀ ρ, Lc (c ρ)) (hb : ∀ ρ G, Gw (body ρ G) G.length) (ρ : Env) (G : Cs) : Gw (wh c body ρ G) G.length := fun o ρ' G' e => by
  obtain ⟨n, hn⟩ := wh_some.mp e
  exact gw_whN hc hb n ρ G _ _ _ hn
theorem gw_store (b i : Nat) (keep : Bool) (w : Rv) (ρ : Env) (G : Cs) : G.length ≤ (store b i keep w ρ G).2.length := by
  unfold store
  split
  · split
    · split
      · rw [List.length_set]; exact Nat.le_refl _
      · rw [List.length_append]; exact Nat.le_add_right _ _
    · rw [List.length_append]; exact Nat.le_add_right _ _
  · exact Nat.le_refl _
  · exact Nat.le_refl _
section
variable {q : Bool} {h : Hd} {b : Nat}
theorem gw_par (H : HLc h) {f : X → T Rv} (hf : ∀ x, Lc (f x)) : ∀ (ks : List Bool) (es : Xs) (G : Cs) (r : Except Err (List Rv)) (G' : Cs), parK ks es f G = some (r, G') → G.length ≤ G'.length
  | [], .nil, G, r, G', e => by cases e; exact Nat.le_refl _
  | [], .cons _ _, G, r, G', e => by cases e
  | [], .star _ _, G, r, G', e => by cases e
  | _ :: _, .nil, G, r, G', e => by cases e
  | _ :: _, .star _ _, G, r, G', e => by cases e
  | k :: ks, .cons a rs, G, r, G', e => by
    unfold parK at e
    rcases T.bind_ok e with ⟨er, e1, _⟩ | ⟨w, G1, e1, e⟩
    · rw [hf _ _ _ _ e1]; exact Nat.le_refl _
    · have l1 := hf _ _ _ _ e1
      rcases T.bind_ok e with ⟨er, e2, _⟩ | ⟨w2, G2, e2, e⟩
      · split at e2 <;> cases e2
      · have l2 : G1.length ≤ G2.length := by
          split at e2 <;> cases e2
          · rw [List.length_append]; exact Nat.le_add_right _ _
          · exact Nat.le_refl _
          · exact Nat.le_refl _
        rcases T.bind_ok e with ⟨er, e3, _⟩ | ⟨w3, G3, e3, e⟩
        · have := gw_par H hf ks rs _ _ _ e3
          omega
        · have := gw_par H hf ks rs _ _ _ e3
          cases e
          omega
theorem gw_lc {α : Type} {m : T α} (h : Lc m) {G : Cs} : ∀ r G', m G = Option.some (r, G') → G.length ≤ G'.length := fun r G' e => by rw [h _ _ _ e]; exact Nat.le_refl _
mutual
theorem gwS (H : HLc h) : ∀ (s : S) (b : Nat) (ρ : Env) (G : Cs), Gw (eS q h b s ρ G) G.length
  | .set i keep e, b, ρ, G => .lift (gw_lc (lcX H e ρ)) fun w G1 l => .some (Nat.le_trans l (gw_store _ _ _ _ _ _))
  | .tups is e, b, ρ, G => .lift (gw_lc (.bind (.bind (lcX H e ρ) Lc.fin) (Lc.walkD _))) fun xs G1 l => by
    split
    · exact .some l
    · exact .none
  | .par is ks es, b, ρ, G => .lift (gw_par H (fun x => lcX H x ρ) ks es G) fun ws G1 l => by
    split
    · exact .some l
    · exact .none
  | .sub o i e, b, ρ, G => .lift (gw_lc (.bind (.bind (lcX H e ρ) Lc.finD) fun v => .bind (.bind (lcX H o ρ) Lc.fin) fun w => .bind (.bind (lcX H i ρ) Lc.finD) fun k => fun G r G' e => by
      split at e
      · split at e <;> cases e
        exact List.length_set ..
      · cases e)) fun _ G1 l => .some l
  | .att o f e, b, ρ, G => .lift (gw_lc (.bind (.bind (lcX H e ρ) Lc.finD) fun v => .bind (.bind (lcX H o ρ) Lc.fin) fun w => fun G r G' e => by
      split at e
      · split at e
        · unfold askO at e
          rename_i C ns vs _
          cases q2 : (h.cls C && decide (ns.length < 900)) <;> rw [q2] at e <;> cases e
          exact List.length_set ..
        · cases e
      · cases e)) fun _ G1 l => .some l
  | .aug i o e, b, ρ, G => .lift (gw_lc (.bind (.bind (.getV ρ i) Lc.asI) fun x => .bind (.bind (lcX H e ρ) Lc.asI) fun y => .liftO _)) fun _ G1 l => .some l
  | .ex e, b, ρ, G => .lift (gw_lc (lcX H e ρ)) fun _ G1 l => .some l
  | .ite c a r, b, ρ, G => .lift (gw_lc (.bind (lcX H c ρ) Lc.asB)) fun t G1 l => by
    cases t
    · exact (gwSs H r b ρ G1).le l
    · exact (gwSs H a b ρ G1).le l
  | .while c a, b, ρ, G => gw_wh (fun ρ => .bind (lcX H c ρ) Lc.asB) (fun ρ G => gwSs H a b ρ G) ρ G
  | .for tg it a, b, ρ, G => .lift (gw_lc (lcIt H it ρ)) fun xs G1 l => (gw_forL (fun ρ G => gwSs H a _ ρ G) _ _ _).le l
  | .ret e, b, ρ, G => .lift (gw_lc (lcX H e ρ)) fun _ G1 l => .some l
  | .retN, b, ρ, G => .some (Nat.le_refl _)
  | .rai C ns as, b, ρ, G => .lift (gw_lc (lcDs H as ρ)) fun us G1 l => by
    cases decide (us.length = ns.length)
    · exact .none
    · exact .some l
  | .try a hs, b, ρ, G => fun o ρ' G' e => by
    have ha := gwSs H a b ρ G
    unfold eS at e
    split at e
    · rename_i er ρ1 G1 e1
      exact Nat.le_trans (ha _ _ _ e1) (gwHs H hs b er ρ1 G1 _ _ _ e)
    · exact ha _ _ _ e
  | .brk, b, ρ, G => .some (Nat.le_refl _)
  | .cnt, b, ρ, G => .some (Nat.le_refl _)
  | .pas, b, ρ, G => .some (Nat.le_refl _)
theorem gwSs (H : HLc h) : ∀ (s : Ss) (b : Nat) (ρ : Env) (G : Cs), Gw (eSs q h b s ρ G) G.length
  | .nil, b, ρ, G => .some (Nat.le_refl _)
  | .cons s r, b, ρ, G => fun o ρ' G' e => by
    have ha := gwS H s b ρ G
    unfold eSs at e
    split at e
    · rename_i ρ1 G1 e1
      exact Nat.le_trans (ha _ _ _ e1) (gwSs H r b ρ1 G1 _ _ _ e)
    · exact ha _ _ _ e
theorem gwHs (H : HLc h) : ∀ (s : Hs) (b : Nat) (er : Err) (ρ : Env) (G : Cs), Gw (eHs q h b s er ρ G) G.length
  | .nil, b, er, ρ, G => .some (Nat.le_refl _)
  | .cons C i a r, b, er, ρ, G => fun o ρ' G' e => by
    unfold eHs at e
    split at e
    · obtain ⟨o', ρ2, e1⟩ := behind_ok e
      exact gwSs H a b _ _ _ _ _ e1
    · exact gwHs H r b er ρ G _ _ _ e
    · cases e
end
theorem Lc.runF (H : HLc h) (fd : Fd) (ws : List Rv) : Lc (runF q h fd ws) := fun G r G' e => by
  have g := gwSs (q := q) H fd.body G.length (start fd ws) G
  unfold L4.runF at e
  split at e
  · rename_i ρ1 G1 e1
    cases e
    have := g _ _ _ e1
    rw [List.length_take]; omega
  · rename_i w ρ1 G1 e1
    split at e <;> cases e
    have := g _ _ _ e1
    rw [List.length_take]; omega
  · rename_i er ρ1 G1 e1
    cases e
    have := g _ _ _ e1
    rw [List.length_take]; omega
  · cases e
theorem Lc.runK (H : HLc h) (fd : Fd) (C : Str) (ws : List Rv) : Lc (runK q h fd C ws) := fun G r G' e => by
  unfold L4.runK at e
  split at e
  · rename_i G1 e1
    have := Lc.runF H fd _ _ _ _ e1
    rw [List.length_append, List.length_singleton] at this
    split at e <;> cases e
    rw [List.length_take]; omega
  · rename_i er G1 e1
    have := Lc.runF H fd _ _ _ _ e1
    rw [List.length_append, List.length_singleton] at this
    cases e
    rw [List.length_take]; omega
  · cases e
end
theorem lc_call (Γ : Pg) (q : Bool) : ∀ n, HLc (hd Γ q n)
  | 0 => fun _ _ => .stuck
  | n + 1 => fun fi ws => by
    have ih := lc_call Γ q n
    show Lc (call Γ q (n + 1) fi ws)
    unfold call
    split
    · exact .stuck
    · split
      · split
        · exact .runK ih _ _ _
        · exact .stuck
      · split
        · exact .runF ih _ _
        · exact .stuck
      · split
        · exact .runF ih _ _
        · exact .stuck
end L4

set_option Elab.async false
set_option linter.all false
set_option maxRecDepth 100000
set_option maxHeartbeats 4000000
/-! The judgement: what the text does to data, the machine does to values. -/
namespace L4
open PySem PySem.Spec PyProof.Rows L2

theorem IsE.mono {K : PySem.W.Frag} {F F' : Hp} {er : Err} {cls : Value} {d : Option Addr} (e : Ex F F') (h : IsE K F er cls d) : IsE K F' er cls d := by
  obtain ⟨h1, h0, h2⟩ := h
  refine ⟨h1, h0, h2.imp id ?_⟩
  rintro ⟨dd, vs, a, b, c, d⟩
  exact ⟨dd, vs, a, e _ _ b, c, d.mono e⟩
/-- the exception that is handled -/
def IsX (X : Cx) (F : Hp) (er : Err) (v : V) : Prop :=
  ∃ (Y : Cx) (a : Addr) (oe : Obj) (cls : Value) (d : Option Addr) (pn : List (Addr × Obj)), X = Y.suite a ((a, oe) :: pn) ∧ v = .ref a ∧ IsE X.K F er cls d ∧ Zc cls d oe ∧ ∃ vs, oe.data = .fields vs
/-- a result's value -/
def IsW (X : Cx) (μ : Nat → Addr) (F : Hp) (G : Cs) (H : Hp) (w : Rv) (v : V) : Prop := match w with
  | .ex er => IsX X F er v
  | w => IsV X.K μ F G H w v
/-- a slot's value -/
def IsS (X : Cx) (μ : Nat → Addr) (F : Hp) (G : Cs) : Rv → V → Prop
  | .d u, v => Is X.K F u v
  | .r l, v => l < G.length ∧ v = .ref (μ l)
  | .n _, _ => False
  | .ex er, v => IsX X F er v
/-- the slots -/
structure EnvOk (X : Cx) (μ : Nat → Addr) (F : Hp) (G : Cs) (ρ : Env) (σ : L2.St) : Prop where
  len : ρ.length = σ.length
  at_ : ∀ (i : Nat) (w : Rv), ρ[i]? = some (some w) → ∃ v, σ[i]? = some (some v) ∧ IsS X μ F G w v
section
variable {X : Cx} {μ μ' : Nat → Addr} {F F' H H' : Hp} {G G' : Cs} {ρ : Env} {σ : L2.St}
theorem IsS.mono {w : Rv} {v : V} (h : IsS X μ F G w v) (e : Ex F F') (l : G.length ≤ G'.length) : IsS X μ F' G' w v := by
  cases w with
  | d u => exact Is.mono e h
  | r k => exact ⟨Nat.lt_of_lt_of_le h.1 l, h.2⟩
  | n u => exact h
  | ex er =>
    obtain ⟨Y, a, oe, cls, d, pn, h1, h2, h3, h4⟩ := h
    exact ⟨Y, a, oe, cls, d, pn, h1, h2, h3.mono e, h4⟩
theorem EnvOk.mono (h : EnvOk X μ F G ρ σ) (e : Ex F F') (l : G.length ≤ G'.length) : EnvOk X μ F' G' ρ σ :=
  ⟨h.len, fun i w hw => by
    obtain ⟨v, h1, h2⟩ := h.at_ i w hw
    exact ⟨v, h1, h2.mono e l⟩⟩
theorem EnvOk.set (h : EnvOk X μ F G ρ σ) (i : Nat) {w : Rv} {v : V} (hw : IsS X μ F G w v) : EnvOk X μ F G (ρ.set i (some w)) (σ.set i (some v)) := by
  refine ⟨by rw [List.length_set, List.length_set]; exact h.len, fun j w' e => ?_⟩
  by_cases hij : i = j
  · subst hij
    have hl : i < ρ.length := by
      have := (List.getElem?_eq_some_iff.mp e).1
      rwa [List.length_set] at this
    rw [List.getElem?_set_self hl] at e
    cases e
    exact ⟨v, List.getElem?_set_self (by rw [← h.len]; exact hl), hw⟩
  · rw [List.getElem?_set_ne hij] at e
    obtain ⟨v', h1, h2⟩ := h.at_ j w' e
    exact ⟨v', by rw [List.getElem?_set_ne hij]; exact h1, h2⟩
theorem EnvOk.setNone (h : EnvOk X μ F G ρ σ) (i : Nat) (o : Option V) : EnvOk X μ F G (ρ.set i none) (σ.set i o) := by
  refine ⟨by rw [List.length_set, List.length_set]; exact h.len, fun j w' e => ?_⟩
  by_cases hij : i = j
  · subst hij
    have hl : i < ρ.length := by
      have := (List.getElem?_eq_some_iff.mp e).1
      rwa [List.length_set] at this
    rw [List.getElem?_set_self hl] at e
    cases e
  · rw [List.getElem?_set_ne hij] at e
    obtain ⟨v', h1, h2⟩ := h.at_ j w' e
    exact ⟨v', by rw [List.getElem?_set_ne hij]; exact h1, h2⟩
theorem EnvOk.wipe (h : EnvOk X μ F G ρ σ) : ∀ vs : List Nat, EnvOk X μ F G (wipe ρ vs) (L2.wipe σ vs)
  | [] => h
  | v :: vs => by
    unfold L4.wipe L2.wipe
    exact (EnvOk.wipe h vs).setNone v none
theorem IsW.s {w : Rv} {v : V} (h : IsW X μ F G H w v) (hn : ∀ u, w ≠ .n u) : IsS X μ F G w v := by
  cases w with
  | d u => exact h
  | r k => exact h
  | n u => exact absurd rfl (hn u)
  | ex er => exact h
theorem frz_ne (w : Rv) : ∀ u, w.frz ≠ .n u := fun u e => by cases w <;> cases e
/-- a value that is no new object stays what it is -/
theorem IsW.mono {w : Rv} {v : V} (h : IsW X μ F G H w v) (hn : ∀ u, w ≠ .n u) (e : Ex F F') (l : G.length ≤ G'.length) : IsW X μ F' G' H' w v := by
  cases w with
  | d u => exact Is.mono e h
  | r k => exact ⟨Nat.lt_of_lt_of_le h.1 l, h.2⟩
  | n u => exact absurd rfl (hn u)
  | ex er =>
    obtain ⟨Y, a, oe, cls, d, pn, h1, h2, h3, h4⟩ := h
    exact ⟨Y, a, oe, cls, d, pn, h1, h2, h3.mono e, h4⟩
theorem frz_w {pins : List (Addr × Obj)} {s : Shared} {w : Rv} {v : V} (I : Inv X pins σ H s) (r : Rep X.K μ F G H) (h : IsW X μ F G H w v) : ∃ F' H', Inv X pins σ H' s ∧ Ex F F' ∧ Rep X.K μ F' G H' ∧ IsW X μ F' G H' w.frz v := by
  cases w with
  | ex er => exact ⟨F, H, I, Ex.refl F, r, h⟩
  | d u => exact ⟨F, H, I, Ex.refl F, r, h⟩
  | r l => exact ⟨F, H, I, Ex.refl F, r, h⟩
  | n u => exact frz_inv (w := .n u) I r h
end

/-- what is wanted behind an evaluation that ended so: of an exception -/
def FinE (X : Cx) (σ : L2.St) (μ : Nat → Addr) (F : Hp) (G' : Cs) {α : Type} (r : Except Err α) : Prop :=
  ∀ er, r = .error er → ∃ W, Takes X W ∧ ∀ F' H' cls d, Ex F F' → Rep X.K μ F' G' H' → IsE X.K F' er cls d → W cls d σ H'
/-- where an evaluation starts -/
structure At (X : Cx) (σ : L2.St) (H : Hp) (μ : Nat → Addr) (ρ : Env) (F : Hp) (G : Cs) : Prop where
  env : EnvOk X μ F G ρ σ
  rep : Rep X.K μ F G H
/-- a reading by the text: m what it does -/
def tM (X : Cx) {α : Type} (m : Env → T α) (σ : L2.St) (H : Hp) (R : (Nat → Addr) → Hp → Cs → Hp → α → Prop) : Prop :=
  ∃ (μ : Nat → Addr) (ρ : Env) (F : Hp) (G : Cs) (r : Except Err α) (G' : Cs), At X σ H μ ρ F G ∧ m ρ G = some (r, G') ∧ FinE X σ μ F G' r ∧
    ∀ w, r = .ok w → ∀ F' H', Ex F F' → Rep X.K μ F' G' H' → R μ F' G' H' w
def tE (X : Cx) (m : Env → T Rv) : TE := fun σ H R => tM X m σ H fun μ F' G' H' w => ∀ v, IsW X μ F' G' H' w v → R v H'
def tT (X : Cx) (m : Env → T Bool) : TT := fun σ H R => tM X m σ H fun μ F' G' H' b => R b H'
def NoN (ws : List Rv) : Prop := ∀ w ∈ ws, ∀ u, w ≠ .n u
def tA (X : Cx) (m : Env → T (List Rv)) : TA := fun σ H R => tM X m σ H fun μ F' G' H' ws => ∀ vs, NoN ws → Paired (IsW X μ F' G' H') ws vs → R vs H'
section
variable {X : Cx} {σ : L2.St} {H : Hp} {μ : Nat → Addr} {ρ : Env} {F F1 : Hp} {G G1 G' : Cs} {α β : Type} {e a b : Expr} {m : Env → T Rv} {pins : List (Addr × Obj)} {s : Shared}
theorem FinE.mono {r : Except Err α} (h : FinE X σ μ F G' r) (e : Ex F F1) : FinE X σ μ F1 G' r := fun er q => by
  obtain ⟨W, h1, h2⟩ := h er q
  exact ⟨W, h1, fun F' H' cls d e' => h2 F' H' cls d (e.trans e')⟩
theorem FinE.ok {x : α} : FinE X σ μ F G' (.ok x) := fun er q => by cases q
theorem At.on {H1 : Hp} (A : At X σ H μ ρ F G) (e : Ex F F1) (r : Rep X.K μ F1 G1 H1) (l : G1.length = G.length) : At X σ H1 μ ρ F1 G1 := ⟨A.env.mono e (by rw [l]; exact Nat.le_refl _), r⟩
/-- the first part of a whole -/
theorem tM_go {m : Env → T α} {k : α → T β} {r : Except Err β} {R : (Nat → Addr) → Hp → Cs → Hp → α → Prop} (A : At X σ H μ ρ F G) (lm : Lc (m ρ)) (hx : T.bind (m ρ) k G = some (r, G')) (fe : FinE X σ μ F G' r)
    (next : ∀ w G1 F1 H1, m ρ G = some (.ok w, G1) → k w G1 = some (r, G') → Ex F F1 → At X σ H1 μ ρ F1 G1 → G1.length = G.length → FinE X σ μ F1 G' r → R μ F1 G1 H1 w) : tM X m σ H R := by
  rcases T.bind_ok hx with ⟨er, h1, rfl⟩ | ⟨w, G2, h1, h2⟩
  · exact ⟨μ, ρ, F, G, _, G', A, h1, fun er' q => fe er' (by cases q; rfl), fun w q => by cases q⟩
  · refine ⟨μ, ρ, F, G, .ok w, G2, A, h1, FinE.ok, fun w' q F' H' e' r' => ?_⟩
    cases q
    exact next _ _ _ _ h1 h2 e' (A.on e' r' (lm _ _ _ h1)) (lm _ _ _ h1) (fe.mono e')
theorem tE_go {m : Env → T Rv} {k : Rv → T β} {r : Except Err β} {R : VK} (A : At X σ H μ ρ F G) (lm : Lc (m ρ)) (hx : T.bind (m ρ) k G = some (r, G')) (fe : FinE X σ μ F G' r)
    (next : ∀ w G1 F1 H1 v, m ρ G = some (.ok w, G1) → k w G1 = some (r, G') → Ex F F1 → At X σ H1 μ ρ F1 G1 → G1.length = G.length → FinE X σ μ F1 G' r → IsW X μ F1 G1 H1 w v → R v H1) : tE X m σ H R :=
  tM_go A lm hx fe fun w G1 F1 H1 h0 h1 h2 h3 hl h4 v i => next w G1 F1 H1 v h0 h1 h2 h3 hl h4 i
theorem tT_go {m : Env → T Bool} {k : Bool → T β} {r : Except Err β} {R : Bool → Hp → Prop} (A : At X σ H μ ρ F G) (lm : Lc (m ρ)) (hx : T.bind (m ρ) k G = some (r, G')) (fe : FinE X σ μ F G' r)
    (next : ∀ w G1 F1 H1, m ρ G = some (.ok w, G1) → k w G1 = some (r, G') → Ex F F1 → At X σ H1 μ ρ F1 G1 → G1.length = G.length → FinE X σ μ F1 G' r → R w H1) : tT X m σ H R :=
  tM_go A lm hx fe next
theorem tA_go {m : Env → T (List Rv)} {k : List Rv → T β} {r : Except Err β} {R : List V → Hp → Prop} (A : At X σ H μ ρ F G) (lm : Lc (m ρ)) (hx : T.bind (m ρ) k G = some (r, G')) (fe : FinE X σ μ F G' r)
    (next : ∀ w G1 F1 H1 v, m ρ G = some (.ok w, G1) → k w G1 = some (r, G') → Ex F F1 → At X σ H1 μ ρ F1 G1 → G1.length = G.length → FinE X σ μ F1 G' r → NoN w → Paired (IsW X μ F1 G1 H1) w v → R v H1) : tA X m σ H R :=
  tM_go A lm hx fe fun w G1 F1 H1 h0 h1 h2 h3 hl h4 v n i => next w G1 F1 H1 v h0 h1 h2 h3 hl h4 n i
/-- e is worth m -/
abbrev Wx (X : Cx) (e : Expr) (m : Env → T Rv) : Prop := PE X e (tE X m)
theorem Wx.go {k : Rv → T β} {r : Except Err β} (h : Wx X e m) (I : Inv X pins σ H s) (A : At X σ H μ ρ F G) (lm : Lc (m ρ)) (hx : T.bind (m ρ) k G = some (r, G')) (fe : FinE X σ μ F G' r) :
    wpAny (model X.prog X.w) X.A (eval e X.env) (EP X pins σ fun v H1 => ∃ w G1 F1, k w G1 = some (r, G') ∧ Ex F F1 ∧ At X σ H1 μ ρ F1 G1 ∧ G1.length = G.length ∧ FinE X σ μ F1 G' r ∧ IsW X μ F1 G1 H1 w v) X.xe s :=
  h.run pins s σ H _ I (tE_go A lm hx fe fun w G1 F1 H1 v _ h1 h2 h3 hl h4 h5 => ⟨w, G1, F1, h1, h2, h3, hl, h4, h5⟩)
/-- .. made to stay, as a fact -/
theorem Wx.goF {k : Rv → T β} {r : Except Err β} (h : Wx X e m) (lm : ∀ ρ, Lc (m ρ)) (I : Inv X pins σ H s) (A : At X σ H μ ρ F G) (hx : T.bind (T.bind (m ρ) fin) k G = some (r, G')) (fe : FinE X σ μ F G' r) :
    wpAny (model X.prog X.w) X.A (eval e X.env) (EP X pins σ fun v H1 => ∃ w G1 F1, (∀ u, w ≠ .n u) ∧ k w G1 = some (r, G') ∧ Ex F F1 ∧ At X σ H1 μ ρ F1 G1 ∧ G1.length = G.length ∧ FinE X σ μ F1 G' r ∧ IsW X μ F1 G1 H1 w v) X.xe s := by
  rw [T.bind_assoc] at hx
  refine thn (h.go I A (lm ρ) hx fe) fun u s1 ⟨v, H1, I1, rv, w, G1, F1, h1, h2, h3, hl, h4, h5⟩ => ?_
  obtain ⟨F2, H2, I2, e2, r2, i2⟩ := frz_w I1 h3.rep h5
  exact ⟨v, H2, I2, rv, w.frz, G1, F2, frz_ne w, h1, h2.trans e2, h3.on e2 r2 rfl, hl, h4.mono e2, i2⟩
/-- .. made to stay -/
theorem Wx.frz (h : Wx X e m) (lm : ∀ ρ, Lc (m ρ)) : Wx X e fun ρ => T.bind (m ρ) fin := by
  refine ⟨fun pins s σ H R I ht => ?_⟩
  obtain ⟨μ, ρ, F, G, r, G', A, hx, fe, k⟩ := ht
  refine thn (h.go I A (lm ρ) hx fe) fun u s1 ⟨v, H1, I1, rv, w, G1, F1, h1, h2, h3, hl, h4, h5⟩ => ?_
  cases h1
  obtain ⟨F2, H2, I2, e2, r2, i2⟩ := frz_w I1 h3.rep h5
  exact ⟨v, H2, I2, rv, k _ rfl F2 H2 (h2.trans e2) r2 v i2⟩
/-- a bool as a test -/
theorem Wx.test (h : Wx X e m) (lm : ∀ ρ, Lc (m ρ)) (he : ∀ whole, isTrue e X.env whole = (do let v ← whole; standAt e.pos; holding [v] (truthy v))) : PT X e (tT X fun ρ => T.bind (m ρ) asB) := by
  refine ⟨fun pins s σ H R I ht => ?_⟩
  obtain ⟨μ, ρ, F, G, r, G', A, hx, fe, k⟩ := ht
  refine isTrue_plain (thn (h.go I A (lm ρ) hx fe) fun u s1 ⟨v, H1, I1, rv, w, G1, F1, h1, h2, h3, hl, h4, h5⟩ => ?_) (he _)
  unfold asB at h1
  split at h1
  · rename_i b
    cases h1
    have e1 : v = .bl b := h5
    subst e1
    cases rv
    exact wpAny_truthy_bool ⟨H1, I1, k _ rfl F1 H1 h2 h3.rep⟩
  · cases h1
/-- expressions that make nothing -/
theorem wx_of {t : TE} {m : Env → T Rv} (h : PE X e t) (ht : ∀ (σ : L2.St) (H : Hp) (μ : Nat → Addr) (ρ : Env) (F : Hp) (G : Cs) (r : Except Err Rv) (G' : Cs) (R : VK), At X σ H μ ρ F G → m ρ G = some (r, G') →
    (∀ w, r = .ok w → ∀ v, G' = G → IsW X μ F G H w v → R v H) → t σ H R) : Wx X e m := by
  refine ⟨fun pins s σ H R I q => ?_⟩
  obtain ⟨μ, ρ, F, G, r, G', A, hx, fe, k⟩ := q
  refine h.run pins s σ H R I (ht σ H μ ρ F G r G' R A hx fun w hr v hg i => ?_)
  subst hg
  exact k w hr F H (Ex.refl F) A.rep v i
theorem wx_var {i : Nat} {n : Str} {pos : Pos} (hN : X.N[i]? = some n) (hv : Vis X.env.scope n) (hd : (n == ("__debug__" : Str)) = false) (hcd : (n == ("__classdict__" : Str)) = false) :
    Wx X (.Name n pos) (fun ρ => getV ρ i) :=
  wx_of (pe_var hN hv hd hcd) fun σ H μ ρ F G r G' R A hx k => by
    unfold getV at hx
    split at hx
    · rename_i w e
      cases hx
      obtain ⟨v, h1, h2⟩ := A.env.at_ i w e
      refine ⟨v, h1, k w rfl v rfl ?_⟩
      cases w with
      | d u => exact h2
      | r l => exact h2
      | n u => exact (show False from h2).elim
      | ex er => exact h2
    · cases hx
theorem wx_con {d : D} {v : V} (h : PE X e (tC v)) (hd : ∀ K F, Is K F d v) : Wx X e (fun _ => T.pure (.d d)) :=
  wx_of h fun σ H μ ρ F G r G' R A hx k => by
    cases hx
    exact k _ rfl v rfl (hd _ _)
end
end L4

set_option Elab.async false
set_option linter.all false
set_option maxRecDepth 100000
set_option maxHeartbeats 4000000
/-! What is seen; what is known of the text; calls of its defs. -/
namespace L4
open PySem PySem.Spec PyProof.Rows L2

/-- a datum seen in the heap as it is -/
def Sees (K : PySem.W.Frag) (F H : Hp) : D → V → Prop
  | .lst ds, v => ∃ a vs, v = .ref a ∧ H a = some (.lst vs) ∧ IsL K F ds vs
  | .dK ks ds, v => ∃ a vs, v = .ref a ∧ Rd H a (.dK (ks.zip vs)) ∧ ks.length = vs.length ∧ IsL K F ds vs
  | .dT ks ds, v => ∃ a vs, v = .ref a ∧ Rd H a (.dT (ks.zip vs)) ∧ ks.length = vs.length ∧ IsL K F ds vs
  | .ins C ns ds, v => ∃ a dx vs, v = .ref a ∧ H a = some (.ins (He.ga K C) dx (ns.zip vs)) ∧ ns.length = vs.length ∧ IsL K F ds vs
  | d, v => Is K F d v
section
variable {X : Cx} {μ : Nat → Addr} {F H : Hp} {G : Cs} {K : PySem.W.Frag}
theorem Is.sees (e : Ex F H) {d : D} {v : V} (h : Is K F d v) : Sees K F H d v := by
  cases d with
  | lst ds => obtain ⟨a, vs, h1, h2, h3⟩ := h; exact ⟨a, vs, h1, e _ _ h2, h3⟩
  | dK ks ds => obtain ⟨a, od, vs, h1, h2, h3, h4⟩ := h; exact ⟨a, vs, h1, .inr ⟨od, e _ _ h2⟩, h3, h4⟩
  | dT ks ds => obtain ⟨a, od, vs, h1, h2, h3, h4⟩ := h; exact ⟨a, vs, h1, .inr ⟨od, e _ _ h2⟩, h3, h4⟩
  | ins C ns ds => obtain ⟨a, dx, vs, h1, h2, h3, h4⟩ := h; exact ⟨a, dx, vs, h1, e _ _ h2, h3, h4⟩
  | _ => exact h
theorem Ob.sees {a : Addr} {d : D} (h : Ob K F H a d) : Sees K F H d (.ref a) := by
  cases d with
  | lst ds => obtain ⟨vs, h2, h3⟩ := h; exact ⟨a, vs, rfl, h2, h3⟩
  | dK ks ds => obtain ⟨vs, h2, h3, h4⟩ := h; exact ⟨a, vs, rfl, .inl h2, h3, h4⟩
  | dT ks ds => obtain ⟨vs, h2, h3, h4⟩ := h; exact ⟨a, vs, rfl, .inl h2, h3, h4⟩
  | ins C ns ds => obtain ⟨dx, vs, h2, h3, h4⟩ := h; exact ⟨a, dx, vs, rfl, h2, h3, h4⟩
  | _ => exact h.elim
theorem IsV.sees (r : Rep K μ F G H) {w : Rv} {v : V} {d : D} (h : IsV K μ F G H w v) (e : see G w = some d) : Sees K F H d v := by
  cases w with
  | d u => cases e; exact Is.sees r.sub h
  | n u =>
    cases e
    obtain ⟨a, rfl, _, _, h3⟩ := h
    exact h3.sees
  | r l =>
    obtain ⟨_, rfl⟩ := h
    exact (r.at_ l d e).2.sees
  | ex er => cases e
theorem IsW.sees (r : Rep X.K μ F G H) {w : Rv} {v : V} {d : D} (h : IsW X μ F G H w v) (e : see G w = some d) : Sees X.K F H d v := by
  cases w with
  | ex er => cases e
  | d u => exact IsV.sees (w := .d u) r h e
  | n u => exact IsV.sees (w := .n u) r h e
  | r l => exact IsV.sees (w := .r l) r h e
end

/-! ### where a def stands, what it promises -/
def recFn (K : PySem.W.Frag) (C : Str) (nm : String) (f : Str) : Addr := match PySem.W.recIn K (He.ma K (He.ga K C) f) nm with
  | some (.ref g :: _) => g
  | _ => 0
def adr (K : PySem.W.Frag) : Fi → Addr
  | .g x => He.ga K x
  | .k C => He.ma K (He.ga K C) "__init__"
  | .m C x => He.ma K (He.ga K C) x
  | .p C x => recFn K C "property" x
  | .c C x => recFn K C "classmethod" x
/-- values of arguments -/
def IsA (K : PySem.W.Frag) (μ : Nat → Addr) (F : Hp) (G : Cs) (w : Rv) (v : V) : Prop := match w with
  | .d u => Is K F u v
  | .r l => l < G.length ∧ v = .ref (μ l)
  | _ => False
/-- a body's promise -/
def spR (Γ : Pg) (q : Bool) (n : Nat) (fd : Fd) (K : PySem.W.Frag) : Sp := fun vs H R Z =>
  ∃ (μ : Nat → Addr) (F : Hp) (G : Cs) (ws : List Rv) (r : Except Err Rv) (G' : Cs), Rep K μ F G H ∧ Paired (IsA K μ F G) ws vs ∧ ws.length = fd.np ∧ runF q (hd Γ q n) fd ws G = some (r, G') ∧
    (∀ w, r = .ok w → ∀ F' H' v, Ex F F' → Rep K μ F' G' H' → IsV K μ F' G' H' w v → R v H') ∧
    (∀ er, r = .error er → ∀ F' H' cls d, Ex F F' → Rep K μ F' G' H' → IsE K F' er cls d → Z cls d H')
/-- as FnOk, where a guard may be wanted down -/
structure FnQ (P : Program) (w : World) (K : PySem.W.Frag) (mg : Str → Option Value) (base : Heap) (q : Bool) (k : Nat) (f : Addr) (fd : FuncData) (ps : List Str) (sp : Sp) : Prop where
  len : ∀ vs H Q E, sp vs H Q E → vs.length = ps.length
  run : ∀ (A : Around) (outer : List PySem.Env) (s : Shared) (H : Hp) (args : Args) (us : List Value) (vs : List V) (Q : VK) (E : XK), (q = true → A.guards = some []) → Room k A → Env0 P w K mg base A outer s H → BindsTo s fd args (ps.zip us) → Vals vs us → sp vs H Q E →
    codeAny (model P w) A (.call (.ref f) args) (CR (L2.CX P w) outer P w H s Q E) s
theorem FnQ.mono {P : Program} {w : World} {K : PySem.W.Frag} {mg : Str → Option Value} {base : Heap} {q : Bool} {j k : Nat} {f : Addr} {fd : FuncData} {ps : List Str} {sp : Sp} (F : FnQ P w K mg base q j f fd ps sp) (h : j ≤ k) : FnQ P w K mg base q k f fd ps sp :=
  ⟨F.len, fun A outer s H args us vs Q E hG hr => F.run A outer s H args us vs Q E hG (hr.mono h)⟩
/-- the defs that are n calls deep keep their promises -/
def Lv (Γ : Pg) (q : Bool) (P : Program) (w : World) (K : PySem.W.Frag) (mg : Str → Option Value) (base : Heap) : Nat → Prop
  | 0 => True
  | n + 1 => ∀ fi fd, Γ.fn fi = some fd → ∃ (f : FuncData) (ps : List Str) (dvs : List V) (ds : List Value), ps.length = fd.np ∧ FnQ P w K mg base q (2 * n + 3) (adr K fi) f ps (spR Γ q n fd K) ∧ Binds K f ps [] ∧ Binds K f ps ds ∧ Vals dvs ds ∧ ∀ F, IsL K F fd.dfl dvs
section
variable {X : Cx} {μ : Nat → Addr} {F H : Hp} {G G' : Cs} {σ : L2.St} {pins : List (Addr × Obj)} {s : Shared} {W : WX} {Γ : Pg} {q : Bool}
theorem IsA.ok {w : Rv} {v : V} (h : IsW X μ F G H w v) (o : okA w = true) : IsA X.K μ F G w v := by
  cases w with
  | d u => exact h
  | r l => exact h
  | n u => cases o
  | ex er => cases o
theorem IsA.okL : ∀ {ws : List Rv} {vs : List V}, Paired (IsW X μ F G H) ws vs → ws.all okA = true → Paired (IsA X.K μ F G) ws vs
  | _, _, .nil, _ => .nil
  | _, _, .cons h t, o => by
    obtain ⟨o1, o2⟩ := Bool.and_eq_true_iff.mp (show (_ && _) = true from o)
    exact .cons (IsA.ok h o1) (IsA.okL t o2)
theorem paired_append {α β : Type} {R : α → β → Prop} : ∀ {xs ys : List α} {us vs : List β}, Paired R xs us → Paired R ys vs → Paired R (xs ++ ys) (us ++ vs)
  | _, _, _, _, .nil, h => h
  | _, _, _, _, .cons a t, h => .cons a (paired_append t h)
theorem isA_dfl : ∀ {ds : List D} {vs : List V}, IsL X.K F ds vs → Paired (IsA X.K μ F G) (ds.map Rv.d) vs
  | [], _, h => by rw [show _ = [] from h]; exact .nil
  | d :: ds, _, h => by
    obtain ⟨v, r, rfl, h1, h2⟩ := h
    exact .cons h1 (isA_dfl h2)
/-- what is wanted behind a call -/
structure Cl0 (X : Cx) (σ : L2.St) (μ : Nat → Addr) (F : Hp) (G' : Cs) (r : Except Err Rv) (R : VK) : Prop where
  e : FinE X σ μ F G' r
  k : ∀ w, r = .ok w → ∀ F' H' v, Ex F F' → Rep X.K μ F' G' H' → IsV X.K μ F' G' H' w v → R v H'
theorem takes_of_fin {r : Except Err Rv} (h : FinE X σ μ F G' r) : ∃ W, Takes X W ∧ ∀ er, r = .error er → ∀ F' H' cls d, Ex F F' → Rep X.K μ F' G' H' → IsE X.K F' er cls d → W cls d σ H' := by
  cases r with
  | ok w => exact ⟨fun _ _ _ _ => False, fun u s' ⟨_, _, _, _, _, _, _, _, _, _, _, _, _, _, _, _, z⟩ => z.elim, fun er e => by cases e⟩
  | error er =>
    obtain ⟨W, h1, h2⟩ := h er rfl
    exact ⟨W, h1, fun er' e => by cases e; exact h2⟩
/-- behind a call -/
def Back (X : Cx) (pins : List (Addr × Obj)) (σ : L2.St) (R : VK) : Result → Shared → Prop := fun r s' => match r with
  | .ok (.ret v) => EP X pins σ R v s'
  | .ok _ => False
  | .error e => X.xe e s'
theorem back_wp {A' : Around} {f : Value} {us : List Value} {R : VK} (h : codeAny (model X.prog X.w) A' (.call f ⟨us, []⟩) (Back X pins σ R) s) : wpAny (model X.prog X.w) A' (PySem.call f us) (EP X pins σ R) X.xe s :=
  wpAny_call (codeAny_mono h fun r s' q => by
    cases r with
    | error e => exact q
    | ok fl => cases fl <;> exact q)
/-- the callee runs, within a built-in's frame or not -/
theorem code_spQ {k : Nat} {f : Addr} {fd : FuncData} {ps : List Str} {sp : Sp} {R : VK} {us ds : List Value} {vs dvs : List V} {A' : Around} (Fn : FnQ X.prog X.w X.K X.mg X.base q k f fd ps sp) (hG : q = true → A'.guards = some []) (hr : Room k A') (hb : Binds X.K fd ps ds) (hd : Vals dvs ds)
    (e0 : Env0 X.prog X.w X.K X.mg X.base A' X.stack s H) (tk : Takes X W) (I : Inv X pins σ H s) (r : Vals vs us) (h : sp (vs ++ dvs) H R (fun c d H' => W c d σ H')) : codeAny (model X.prog X.w) A' (.call (.ref f) ⟨us, []⟩) (Back X pins σ R) s := by
  have r2 : Vals (vs ++ dvs) (us ++ ds) := r.append hd
  have hl : (us ++ ds).length = ps.length := by rw [← r2.length]; exact Fn.len _ _ _ _ h
  refine codeAny_mono (Fn.run A' X.stack s H ⟨us, []⟩ (us ++ ds) (vs ++ dvs) R _ hG hr e0 (hb s us I.kIn hl) r2 h) fun r s' hq => ?_
  cases r with
  | error e => exact tk _ _ (XE.of_call I (fun _ _ _ h => h) hq)
  | ok fl =>
    cases fl with
    | ret u => exact I.after hq
    | next => exact False.elim hq
    | brk => exact False.elim hq
    | cont => exact False.elim hq
theorem argsOf_ok {fd : Fd} {ws ws' : List Rv} (h : argsOf fd ws = some ws') : ws.all okA = true ∧ ((ws.length = fd.np ∧ ws' = ws) ∨ (ws.length + fd.dfl.length = fd.np ∧ ws' = ws ++ fd.dfl.map Rv.d)) := by
  unfold argsOf at h
  cases q : ws.all okA with
  | false => rw [q] at h; cases h
  | true =>
    rw [q] at h
    dsimp only [cond] at h
    refine ⟨rfl, ?_⟩
    split at h
    · cases h; exact .inl ⟨by assumption, rfl⟩
    · split at h
      · cases h; exact .inr ⟨by assumption, rfl⟩
      · cases h
/-- the def runs on these arguments -/
theorem code_fd {n : Nat} {fi : Fi} {fd : Fd} {ws ws' : List Rv} {vs : List V} {us : List Value} {r : Except Err Rv} {R : VK} {A' : Around} {pre : List Rv} {prv : List V} {pru : List Value} (lv : Lv Γ q X.prog X.w X.K X.mg X.base (n + 1)) (hf : Γ.fn fi = some fd)
    (hG : q = true → A'.guards = some []) (hr : Room (2 * n + 3) A') (e0 : Env0 X.prog X.w X.K X.mg X.base A' X.stack s H) (I : Inv X pins σ H s) (rp : Rep X.K μ F G H)
    (hp : Paired (IsA X.K μ F G) pre prv) (hpv : Vals prv pru) (ha : Paired (IsW X μ F G H) ws vs) (hv : Vals vs us) (hw : argsOf { fd with np := fd.np - pre.length } ws = some ws') (hpn : pre.length ≤ fd.np) (hx : runF q (hd Γ q n) fd (pre ++ ws') G = some (r, G')) (fin : Cl0 X σ μ F G' r R) :
    codeAny (model X.prog X.w) A' (.call (.ref (adr X.K fi)) ⟨pru ++ us, []⟩) (Back X pins σ R) s := by
  obtain ⟨f, ps, dvs, ds, hps, Fn, b1, b2, hds, hdl⟩ := lv fi fd hf
  obtain ⟨W, tk, hW⟩ := takes_of_fin fin.e
  obtain ⟨ok, hw⟩ := argsOf_ok hw
  have hA := IsA.okL ha ok
  rcases hw with ⟨hl, rfl⟩ | ⟨hl, rfl⟩
  · refine code_spQ Fn hG hr b1 (dvs := []) .nil e0 tk I (hpv.append hv) ⟨μ, F, G, _, r, G', rp, ?_, ?_, hx, fin.k, hW⟩
    · rw [List.append_nil]; exact paired_append hp hA
    · dsimp only at hl
      rw [List.length_append]; omega
  · refine code_spQ Fn hG hr b2 hds e0 tk I (hpv.append hv) ⟨μ, F, G, _, r, G', rp, ?_, ?_, hx, fin.k, hW⟩
    · rw [List.append_assoc]
      exact paired_append hp (paired_append hA (isA_dfl (hdl F)))
    · dsimp only at hl
      simp only [List.length_append, List.length_map]
      have : ws.length + fd.dfl.length = fd.np - pre.length := hl
      omega
theorem run_fd {n : Nat} {fi : Fi} {fd : Fd} {ws ws' : List Rv} {vs : List V} {us : List Value} {r : Except Err Rv} {R : VK} {A' : Around} {pre : List Rv} {prv : List V} {pru : List Value} (lv : Lv Γ q X.prog X.w X.K X.mg X.base (n + 1)) (hf : Γ.fn fi = some fd)
    (hG : q = true → A'.guards = some []) (hr : Room (2 * n + 3) A') (e0 : Env0 X.prog X.w X.K X.mg X.base A' X.stack s H) (I : Inv X pins σ H s) (rp : Rep X.K μ F G H)
    (hp : Paired (IsA X.K μ F G) pre prv) (hpv : Vals prv pru) (ha : Paired (IsW X μ F G H) ws vs) (hv : Vals vs us) (hw : argsOf { fd with np := fd.np - pre.length } ws = some ws') (hpn : pre.length ≤ fd.np) (hx : runF q (hd Γ q n) fd (pre ++ ws') G = some (r, G')) (fin : Cl0 X σ μ F G' r R) :
    wpAny (model X.prog X.w) A' (PySem.call (.ref (adr X.K fi)) (pru ++ us)) (EP X pins σ R) X.xe s := back_wp (code_fd lv hf hG hr e0 I rp hp hpv ha hv hw hpn hx fin)
end
end L4

set_option Elab.async false
set_option linter.all false
set_option maxRecDepth 100000
set_option maxHeartbeats 4000000
/-! What is known of the text; operators. -/
namespace L4
open PySem PySem.Spec PyProof.Rows L2

def tags : List String := ["NoneType", "bool", "int", "str", "list", "tuple", "dict"]
/-- what is told of the text: defs, classes, globals, names that are free, errors, fields -/
structure Tb where
  pg : Pg
  gl : Str → Option D
  fr : Str → Bool
  er : Str → Option (List Str)
  fd : List Str
  exn : Str → Bool
/-- an own class -/
structure ClsK (K : PySem.W.Frag) (C : Str) : Prop where
  cl : Cls K (He.ga K C)
  first : PySem.W.selfFirst K (He.ga K C) = true
  sub : ∀ t ∈ tags, PySem.W.subIn K (.type t) (.ref (He.ga K C)) = some false
  ha : PySem.W.findIn K (.ref (He.ga K C)) "__class__" = some (some (.builtin "object.__class__"))
  hn : PySem.W.specialIn K (.builtin "object.__class__") "__get__" = some (some (.builtin "getset_descriptor.__get__"))
  tk : PySem.W.takesIn K (.builtin "object.__class__") = some true
  mo : PySem.W.mroIn K (He.ga K C) (.type "object") = some true
  to : ∀ t ∈ tags, PySem.W.kitOne K (.ref (He.ga K C)) (.type t) = some false
  of : ∀ t ∈ tags, PySem.W.kitOne K (.type t) (.ref (He.ga K C)) = some false
  self : PySem.W.kitOne K (.ref (He.ga K C)) (.ref (He.ga K C)) = some true
  ne : PySem.W.findIn K (.ref (He.ga K C)) "__ne__" = some (some (.builtin "object.__ne__"))
/-- a binary operator of a class -/
structure BinK (K : PySem.W.Frag) (C : Str) (nm : String) : Prop where
  refl : PySem.W.findIn K (.ref (He.ga K C)) (dunderR nm) = some none
  l : ∀ t ∈ tags, (PySem.W.findIn K (.type t) (PySem.dunder nm)).isSome = true
  r : ∀ t ∈ tags, (PySem.W.findIn K (.type t) (dunderR nm)).isSome = true
/-- the text is as told -/
structure Kn (τ : Tb) (K : PySem.W.Frag) (mg : Str → Option Value) : Prop where
  gl : ∀ x d, τ.gl x = some d → ∃ u v, mg x = some u ∧ RelV v u ∧ ∀ F, Is K F d v
  fr : ∀ x, τ.fr x = true → mg x = none
  g : ∀ x fd, τ.pg.fn (.g x) = some fd → mg x = some (.ref (He.ga K x)) ∧ PySem.W.keepIn K (.ref (He.ga K x)) = true
  k : ∀ C fd, τ.pg.fn (.k C) = some fd → mg C = some (.ref (He.ga K C)) ∧ PySem.W.keepIn K (.ref (He.ga K C)) = true ∧ Mk K (He.ga K C) (He.ma K (He.ga K C) "__init__") ∧ 1 ≤ fd.np
  m : ∀ C x fd, τ.pg.fn (.m C x) = some fd → Meth K (He.ga K C) x (He.ma K (He.ga K C) x)
  p : ∀ C x fd, τ.pg.fn (.p C x) = some fd → PropOf K (He.ga K C) x (He.ma K (He.ga K C) x) (recFn K C "property" x)
  c : ∀ C x fd, τ.pg.fn (.c C x) = some fd → ClX.CMet K (He.ga K C) (.type "type") x (He.ma K (He.ga K C) x) (recFn K C "classmethod" x) ∧ ClX.CRead K (He.ga K C) (.type "type") ∧ 1 ≤ fd.np
  cls : ∀ C, τ.pg.cls C = true → ClsK K C
  fd : ∀ C, τ.pg.cls C = true → ∀ f ∈ τ.fd, NoAttr K (He.ga K C) f
  bin : ∀ C, τ.pg.cls C = true → ∀ o nm fd, dunder o = some nm → τ.pg.fn (.m C nm) = some fd → BinK K C o.info.2
  exm : ∀ C, τ.exn C = true → ∃ c, (mg C = some c ∨ (mg C = none ∧ bootBuiltins C = some c ∧ C ≠ "__name__")) ∧ ∀ C' b, τ.pg.exm C C' = some b → PySem.W.exmOne K (.ref (He.ga K C')) c = some b
  two : ∀ C C', τ.pg.cls C = true → τ.pg.cls C' = true → C ≠ C' → PySem.W.kitOne K (.ref (He.ga K C)) (.ref (He.ga K C')) = some false
/-- (built: see the fields above) -/
abbrev ClsNm (mg : Str → Option Value) (C : Str) (c : Value) : Prop := mg C = some c ∨ (mg C = none ∧ bootBuiltins C = some c ∧ C ≠ "__name__")
/-- a good place: names, calls n deep -/
structure Good (τ : Tb) (q : Bool) (n : Nat) (X : Cx) : Prop where
  kn : Kn τ X.K X.mg
  lv : Lv τ.pg q X.prog X.w X.K X.mg X.base n
  gd : q = true → X.A.guards = some []
  hr : Room (2 * n + 2) X.A
  nd : X.N.Nodup
section
variable {X : Cx} {σ : L2.St} {H : Hp} {μ : Nat → Addr} {ρ : Env} {F F1 : Hp} {G G1 G' : Cs} {e a b : Expr} {ma mb : Env → T Rv} {pins : List (Addr × Obj)} {s : Shared} {τ : Tb} {q : Bool} {n : Nat} {pos : Pos} {r : Except Err Rv} {R : VK}
/-- the end of an evaluation -/
structure Fn' (X : Cx) (σ : L2.St) (μ : Nat → Addr) (F : Hp) (G' : Cs) (r : Except Err Rv) (R : VK) : Prop where
  e : FinE X σ μ F G' r
  k : ∀ w, r = .ok w → ∀ F' H' v, Ex F F' → Rep X.K μ F' G' H' → IsW X μ F' G' H' w v → R v H'
theorem Fn'.mono (f : Fn' X σ μ F G' r R) (e : Ex F F1) : Fn' X σ μ F1 G' r R := ⟨f.e.mono e, fun w q F' H' v e' => f.k w q F' H' v (e.trans e')⟩
theorem Fn'.cl (f : Fn' X σ μ F G' r R) : Cl0 X σ μ F G' r R := ⟨f.e, fun w q F' H' v e rp i => f.k w q F' H' v e rp (by
  cases w with
  | ex er => exact (show False from i).elim
  | d u => exact i
  | n u => exact i
  | r l => exact i)⟩
/-- a datum is handed on -/
theorem Fn'.dat {u : D} {v : V} (f : Fn' X σ μ F G' r R) (rp : Rep X.K μ F G' H) (e : r = .ok (.d u)) (i : Is X.K F u v) : R v H := f.k _ e F H v (Ex.refl F) rp i
/-- a new object is handed on -/
theorem Fn'.new {u : D} {p : Addr} {o : HO} (f : Fn' X σ μ F G' r R) (rp : Rep X.K μ F G' H) (e : r = .ok (.n u)) (np : H p = none) (ob : Ob X.K F (upd H p o) p u) : R (.ref p) (upd H p o) :=
  f.k _ e F _ _ (Ex.refl F) (rp.new np) ⟨p, rfl, rp.sub.none np, rp.off np, ob⟩
/-- a new object, frozen at once -/
theorem Fn'.newF {u : D} {p : Addr} {o : HO} (f : Fn' X σ μ F G' r R) (rp : Rep X.K μ F G' H) (e : r = .ok (.d u)) (np : H p = none) (i : Is X.K (upd F p o) u (.ref p)) : R (.ref p) (upd H p o) :=
  f.k _ e _ _ _ (Ex.new (rp.sub.none np)) (rp.newF np) i
theorem line_ok {k : Nat} (h : k ≤ line) : k ≤ sizeLine := by
  rw [sizeLine_eq]
  exact Nat.le_trans h (by decide)
theorem askO_ok {α : Type} {c : Bool} {x : Option α} {y : α} (h : askO c x = some y) : c = true ∧ x = some y := by
  cases c with
  | true => exact ⟨rfl, h⟩
  | false => cases h
theorem isL_rep {K : PySem.W.Frag} {xs : List D} {vs : List V} (h : IsL K F xs vs) : ∀ k : Nat, IsL K F (List.replicate k xs).flatten (List.replicate k vs).flatten
  | 0 => IsL.nil
  | k + 1 => by
    rw [List.replicate_succ, List.replicate_succ, List.flatten_cons, List.flatten_cons]
    exact h.append (isL_rep h k)
theorem rep_cps (a : Array Nat) (k : Nat) : (List.replicate k a).foldl (· ++ ·) #[] = (List.replicate k a.toList).flatten.toArray := by
  have h : ∀ (k : Nat) (b : Array Nat), (List.replicate k a).foldl (· ++ ·) b = b ++ (List.replicate k a.toList).flatten.toArray := by
    intro k
    induction k with
    | zero => intro b; simp
    | succ k ih =>
      intro b
      rw [List.replicate_succ, List.foldl_cons, ih, List.replicate_succ, List.flatten_cons, Array.append_assoc]
      congr 1
      apply Array.ext'
      simp
  rw [h k #[]]
  simp
theorem rel_int {x : Int} {u : Value} (h : RelV (.int x) u) : ∃ t, u = .int x t := h
/-- an operator on plain data -/
theorem opv_bin {o : Operator} {x y : D} {v1 v2 : V} {u1 u2 : Value} {w : Rv} (I : Inv X pins σ H s) (rp : Rep X.K μ F G H) (h1 : Sees X.K F H x v1) (h2 : Sees X.K F H y v2) (r1 : RelV v1 u1) (r2 : RelV v2 u2) (hx : binD o x y = some w)
    (f : Fn' X σ μ F G (.ok w) R) : wpAny (model X.prog X.w) X.A (binaryOp o u1 u2) (EP X pins σ R) X.xe s := by
  unfold binD at hx
  split at hx
  · rename_i i j
    obtain ⟨z, hz, rfl⟩ := Option.map_eq_some_iff.mp hx
    have e1 : v1 = .int i := h1
    have e2 : v2 = .int j := h2
    subst e1 e2
    cases o <;> unfold intBin at hz <;> dsimp only at hz
    case Add => cases hz; exact op_add pins s σ H _ _ _ _ R I r1 r2 ⟨i, j, rfl, rfl, f.dat rp rfl rfl⟩
    case Sub => cases hz; exact op_sub pins s σ H _ _ _ _ R I r1 r2 ⟨i, j, rfl, rfl, f.dat rp rfl rfl⟩
    case Mult =>
      obtain ⟨hc, hz⟩ := askO_ok hz
      cases hz
      exact op_mulW pins s σ H _ _ _ _ R I r1 r2 ⟨i, j, rfl, rfl, (of_decide_eq_true hc : i.natAbs.log2 + j.natAbs.log2 < 1000000), f.dat rp rfl rfl⟩
    case FloorDiv =>
      obtain ⟨hc, hz⟩ := askO_ok hz
      cases hz
      obtain ⟨c1, c2⟩ := Bool.and_eq_true_iff.mp hc
      obtain ⟨t1, rfl⟩ := rel_int r1
      obtain ⟨t2, rfl⟩ := rel_int r2
      exact floordiv_int (of_decide_eq_true c1) ⟨.int _, H, I.tok _, ⟨_, rfl⟩, f.dat rp rfl rfl⟩ (.inl (PyProof.noPylong_of_log2 (of_decide_eq_true c2)))
    case Mod =>
      obtain ⟨hc, hz⟩ := askO_ok hz
      cases hz
      exact op_modN pins s σ H _ _ _ _ R I r1 r2 ⟨i, j, rfl, rfl, of_decide_eq_true hc, f.dat rp rfl rfl⟩
    case Pow =>
      obtain ⟨hc, hz⟩ := askO_ok hz
      cases hz
      obtain ⟨c1, c2⟩ := Bool.and_eq_true_iff.mp hc
      obtain ⟨c2, c3⟩ := Bool.and_eq_true_iff.mp c2
      exact op_pow pins s σ H _ _ _ _ R I r1 r2 ⟨i, j, rfl, rfl, ⟨of_decide_eq_true c1, of_decide_eq_true c2, of_decide_eq_true c3⟩, f.dat rp rfl rfl⟩
    case LShift =>
      obtain ⟨hc, hz⟩ := askO_ok hz
      cases hz
      obtain ⟨c1, c2⟩ := Bool.and_eq_true_iff.mp hc
      obtain ⟨c2, c3⟩ := Bool.and_eq_true_iff.mp c2
      exact op_shl pins s σ H _ _ _ _ R I r1 r2 ⟨i, j, rfl, rfl, ⟨of_decide_eq_true c1, of_decide_eq_true c2, of_decide_eq_true c3⟩, f.dat rp rfl rfl⟩
    case RShift =>
      obtain ⟨hc, hz⟩ := askO_ok hz
      cases hz
      obtain ⟨c1, c2⟩ := Bool.and_eq_true_iff.mp hc
      exact op_shr pins s σ H _ _ _ _ R I r1 r2 ⟨i, j, rfl, rfl, of_decide_eq_true c1, f.dat rp rfl rfl⟩
    case BitAnd =>
      obtain ⟨hc, hz⟩ := askO_ok hz
      cases hz
      obtain ⟨c1, c2⟩ := Bool.and_eq_true_iff.mp hc
      have c1 : 0 ≤ i := of_decide_eq_true c1
      have c2 : j = 1 := of_decide_eq_true c2
      obtain ⟨k, rfl⟩ := Int.eq_ofNat_of_zero_le c1
      refine op_odd pins s σ H _ _ _ _ R I r1 r2 ⟨k, rfl, by rw [c2], f.dat rp rfl ?_⟩
      exact congrArg V.int (by omega)
    all_goals cases hz
  · rename_i x y
    split at hx
    · obtain ⟨hc, hz⟩ := askO_ok hx
      cases hz
      exact op_add_str pins s σ H _ _ _ _ R I r1 r2 ⟨x, y, h1, h2, line_ok (of_decide_eq_true hc), f.dat rp rfl rfl⟩
    · cases hx
  · rename_i x k
    split at hx
    · obtain ⟨hc, hz⟩ := askO_ok hx
      cases hz
      obtain ⟨c1, c2⟩ := Bool.and_eq_true_iff.mp hc
      obtain ⟨c2, c3⟩ := Bool.and_eq_true_iff.mp c2
      obtain ⟨c3, c4⟩ := Bool.and_eq_true_iff.mp c3
      have c1 : 2 ≤ k := of_decide_eq_true c1
      have c2 : k ≤ 1000 := of_decide_eq_true c2
      have c3 : x.length ≤ 1000 := of_decide_eq_true c3
      have c4 : x.length ≠ 0 := of_decide_eq_true c4
      have e1 : v1 = .str x := h1
      have e2 : v2 = .int k := h2
      subst e1 e2
      obtain ⟨t1, rfl⟩ : ∃ t, u1 = .str x t := r1
      obtain ⟨t2, rfl⟩ := rel_int r2
      refine PySem.P.mul_str ?_ (fun _ _ => ?_) (fun _ _ => ?_) ?_
      · rw [decide_eq_false (by omega), decide_eq_false (by omega)]; rfl
      · have : (1000 : Int) ≤ (2 ^ 63 - 1) / k := Int.le_ediv_of_mul_le (by omega) (by omega)
        omega
      · refine decide_eq_false (Nat.not_lt.mpr (line_ok (Nat.le_trans (Nat.mul_le_mul c3 (show k.toNat ≤ 1000 by omega)) (by decide))))
      · rw [if_neg (by omega), if_neg (by simp; omega)]
        rw [rep_cps]
        refine ⟨?_, V.str _, H, I.tok _, ⟨_, rfl⟩, f.dat rp rfl rfl⟩
        show (List.replicate k.toNat x.cps.toList).flatten.toArray.size ≤ sizeLine
        rw [List.size_toArray, List.length_flatten, List.map_replicate, List.sum_replicate_nat, Array.length_toList]
        exact line_ok (Nat.le_trans (Nat.mul_le_mul (show k.toNat ≤ 1000 by omega) c3) (by decide))
    · cases hx
  · rename_i xs ys
    split at hx
    · obtain ⟨hc, hz⟩ := askO_ok hx
      cases hz
      obtain ⟨l, vs, rfl, e1, i1⟩ := h1
      obtain ⟨k, us, rfl, e2, i2⟩ := h2
      refine op_cat pins s σ H _ _ _ _ R I r1 r2 ⟨l, k, vs, us, rfl, rfl, e1, e2, ?_, fun p np => f.new rp rfl np ⟨_, upd_same, i1.append i2⟩⟩
      rw [i1.length, i2.length]
      exact line_ok (of_decide_eq_true hc)
    · cases hx
  · rename_i xs k
    split at hx
    · obtain ⟨hc, hz⟩ := askO_ok hx
      cases hz
      obtain ⟨c1, c2⟩ := Bool.and_eq_true_iff.mp hc
      obtain ⟨c2, c3⟩ := Bool.and_eq_true_iff.mp c2
      have c1 : -1000 ≤ k := of_decide_eq_true c1
      have c2 : k ≤ 1000 := of_decide_eq_true c2
      have c3 : xs.length ≤ 1000 := of_decide_eq_true c3
      obtain ⟨l, vs, rfl, e1, i1⟩ := h1
      refine op_rep pins s σ H _ _ _ _ R I r1 r2 ⟨l, k, vs, rfl, h2, e1, by omega, by omega, ?_, fun p np => f.new rp rfl np ⟨_, upd_same, isL_rep i1 _⟩⟩
      rw [i1.length]
      have := Nat.mul_le_mul c3 (show k.toNat ≤ 1000 by omega)
      exact line_ok (Nat.le_trans this (by decide))
    · cases hx
  · rename_i xs k
    split at hx
    · obtain ⟨hc, hz⟩ := askO_ok hx
      cases hz
      obtain ⟨c1, c2⟩ := Bool.and_eq_true_iff.mp hc
      obtain ⟨c2, c3⟩ := Bool.and_eq_true_iff.mp c2
      obtain ⟨c3, c4⟩ := Bool.and_eq_true_iff.mp c3
      obtain ⟨l, vs, rfl, e1, i1⟩ := h1
      refine op_repT pins s σ H _ _ _ _ R I r1 r2 ⟨l, k, vs, rfl, h2, .of (rp.sub _ _ e1), ?_, of_decide_eq_true c1, of_decide_eq_true c2, ?_, fun p np => f.newF rp rfl np ⟨p, _, rfl, upd_same, (isL_rep i1 _).mono (Ex.new (rp.sub.none np))⟩⟩
      · intro z
        rw [z] at i1
        have := i1.length
        cases xs with
        | nil => cases c4
        | cons _ _ => simp at this
      · rw [i1.length]; exact of_decide_eq_true c3
    · cases hx
  · cases hx
end
end L4

set_option Elab.async false
set_option linter.all false
set_option maxRecDepth 100000
set_option maxHeartbeats 4000000
/-! Own operators; expressions of operators. -/
namespace L4
open PySem PySem.Spec PyProof.Rows L2
section
variable {X : Cx} {σ : L2.St} {H : Hp} {μ : Nat → Addr} {ρ : Env} {F F1 : Hp} {G G1 G' : Cs} {e a b c : Expr} {ma mb mc : Env → T Rv} {pins : List (Addr × Obj)} {s : Shared} {τ : Tb} {q : Bool} {n : Nat} {pos : Pos} {r : Except Err Rv} {R : VK}
def plainFi : Fi → Bool
  | .k _ => false
  | .c _ _ => false
  | _ => true
/-- the def at fi runs -/
theorem run_fi {fi : Fi} {ws : List Rv} {vs : List V} {us : List Value} {A' : Around} (hp : plainFi fi = true) (hx : (hd τ.pg q n).call fi ws G = some (r, G')) (lv : Lv τ.pg q X.prog X.w X.K X.mg X.base n) (hG : q = true → A'.guards = some []) (hr : Room (2 * n + 1) A')
    (e0 : Env0 X.prog X.w X.K X.mg X.base A' X.stack s H) (I : Inv X pins σ H s) (rp : Rep X.K μ F G H) (ha : Paired (IsW X μ F G H) ws vs) (hv : Vals vs us) (fin : Cl0 X σ μ F G' r R) : (∃ fd, τ.pg.fn fi = some fd) ∧ wpAny (model X.prog X.w) A' (PySem.call (.ref (adr X.K fi)) us) (EP X pins σ R) X.xe s := by
  cases n with
  | zero => cases hx
  | succ n =>
    have hx : call τ.pg q (n + 1) fi ws G = some (r, G') := hx
    unfold call at hx
    cases hf : τ.pg.fn fi with
    | none => rw [hf] at hx; cases hx
    | some fd =>
      rw [hf] at hx
      refine ⟨⟨fd, rfl⟩, ?_⟩
      have go : ∀ ws', argsOf fd ws = some ws' → runF q (hd τ.pg q n) fd ws' G = some (r, G') → wpAny (model X.prog X.w) A' (PySem.call (.ref (adr X.K fi)) us) (EP X pins σ R) X.xe s := fun ws' h1 h2 =>
        run_fd (pre := []) (prv := []) (pru := []) lv hf hG hr e0 I rp .nil .nil ha hv (ws' := ws') h1 (Nat.zero_le _) h2 fin
      cases fi with
      | k C => cases hp
      | c C x => cases hp
      | g x =>
        dsimp only at hx
        cases h1 : argsOf fd ws with
        | none => rw [h1] at hx; cases hx
        | some ws' => rw [h1] at hx; exact go ws' h1 hx
      | m C x =>
        dsimp only at hx
        cases h1 : argsOf fd ws with
        | none => rw [h1] at hx; cases hx
        | some ws' => rw [h1] at hx; exact go ws' h1 hx
      | p C x =>
        dsimp only at hx
        cases h1 : argsOf fd ws with
        | none => rw [h1] at hx; cases hx
        | some ws' => rw [h1] at hx; exact go ws' h1 hx
theorem cmpback {P : Value → Shared → Prop} {z : V} {v : Value} {s' : Shared} (r : RelV z v) (h : P v s') : PySem.W.CmpBack P v s' := by
  cases z with
  | non => cases (show v = Value.none from r); exact h
  | bl b => cases (show v = Value.bool b from r); exact h
  | int i => obtain ⟨t, e⟩ := (show ∃ t, v = Value.int i t from r); cases e; exact h
  | str x => obtain ⟨t, e⟩ := (show ∃ t, v = Value.str x t from r); cases e; exact h
  | byt b => obtain ⟨t, e⟩ := (show ∃ t, v = Value.bytes b t from r); cases e; exact h
  | flt b => obtain ⟨t, e⟩ := (show ∃ t, v = Value.float b t from r); cases e; exact h
  | ref a => cases (show v = Value.ref a from r); exact h
  | ty n => cases (show v = Value.type n from r); exact h

/-- the operand's place -/
theorem ins_at {x : D} {C : Str} {v : V} {u : Value} {ns : List Str} {ds : List D} (I : Inv X pins σ H s) (h : Sees X.K F H (.ins C ns ds) v) (r : RelV v u) : ∃ (x dx : Addr) (fs : List (Str × V)), v = .ref x ∧ u = .ref x ∧ H x = some (.ins (He.ga X.K C) dx fs) := by
  obtain ⟨a, dx, vs, rfl, h2, _⟩ := h
  cases (show u = Value.ref a from r)
  exact ⟨a, dx, _, rfl, rfl, h2⟩
theorem opv_own {o : Operator} {x y : Rv} {C : Str} {ns : List Str} {ds : List D} {d : D} {nm : Str} {v1 v2 : V} {u1 u2 : Value} (gd : Good τ q n X) (I : Inv X pins σ H s) (rp : Rep X.K μ F G H) (i1 : IsW X μ F G H x v1) (i2 : IsW X μ F G H y v2) (r1 : RelV v1 u1) (r2 : RelV v2 u2)
    (s1 : see G x = some (.ins C ns ds)) (s2 : see G y = some d) (hn : dunder o = some nm) (hc : τ.pg.cls C = true) (hd2 : (∃ i, d = .int i) ∨ insOf d = some C) (hx : (hd τ.pg q n).call (.m C nm) [x, y] G = some (r, G')) (f : Fn' X σ μ F G' r R) :
    wpAny (model X.prog X.w) X.A (binaryOp o u1 u2) (EP X pins σ R) X.xe s := by
  have ck := gd.kn.cls C hc
  obtain ⟨a, dx, fs, rfl, rfl, ha⟩ := ins_at (x := d) I (i1.sees rp s1) r1
  have e2 := i2.sees rp s2
  obtain ⟨mA, O, _⟩ := ins_get I.hok ha
  obtain ⟨od, J, _⟩ := O.look
  obtain ⟨m, hF⟩ := I.fr
  obtain ⟨⟨fd, hfd⟩, run⟩ := run_fi (A' := X.A) rfl hx gd.lv gd.gd (gd.hr.mono (by omega)) I.env0 I rp (.cons i1 (.cons i2 .nil)) (.cons r1 (.cons r2 .nil)) f.cl
  have me := gd.kn.m C nm fd hfd
  have bk := gd.kn.bin C hc o nm fd hn hfd
  have enm : PySem.dunder o.info.2 = nm := by
    cases o <;> first | cases hn | skip
    all_goals (first | decide | rfl)
  have go : wpAny (model X.prog X.w) X.A (PySem.call (.ref (He.ma X.K (He.ga X.K C) nm)) [.ref a, u2]) (PySem.W.CmpBack (EP X pins σ R)) X.xe s :=
    thn run fun w s' hq => by
      obtain ⟨v', H', I', rv, q⟩ := hq
      exact cmpback rv ⟨v', H', I', rv, q⟩
  rcases hd2 with ⟨i, rfl⟩ | hi
  · have ev : v2 = .int i := e2
    subst ev
    obtain ⟨t, rfl⟩ : ∃ t, u2 = Value.int i t := r2
    obtain ⟨fo, h1⟩ := Option.isSome_iff_exists.mp (bk.l "int" (by simp [tags]))
    obtain ⟨ro, h2⟩ := Option.isSome_iff_exists.mp (bk.r "int" (by simp [tags]))
    exact PySem.W.ksp_binT hF I.ok.mod.kin J (T := "int") rfl ck.first (by rw [enm]; exact me.at_) me.fn bk.refl (.inl rfl) h1 h2 (ck.sub "int" (by simp [tags])) go
  · cases d with
    | ins C' ns' ds' =>
      cases (Option.some.inj hi : C' = C)
      obtain ⟨b, dy, gs, rfl, rfl, hb⟩ := ins_at (x := .non) I e2 r2
      obtain ⟨mB, O2, _⟩ := ins_get I.hok hb
      obtain ⟨od2, J2, _⟩ := O2.look
      exact PySem.W.binop_K hF I.ok.mod.kin J J2.type ck.first (by rw [enm]; exact me.at_) me.fn go
    | _ => cases hi
theorem opv_eBin {o : Operator} {x y : Rv} {v1 v2 : V} {u1 u2 : Value} (gd : Good τ q n X) (I : Inv X pins σ H s) (rp : Rep X.K μ F G H) (i1 : IsW X μ F G H x v1) (i2 : IsW X μ F G H y v2) (r1 : RelV v1 u1) (r2 : RelV v2 u2)
    (hx : eBin (hd τ.pg q n) o x y G = some (r, G')) (f : Fn' X σ μ F G' r R) : wpAny (model X.prog X.w) X.A (binaryOp o u1 u2) (EP X pins σ R) X.xe s := by
  unfold eBin at hx
  split at hx
  · rename_i C ns ds d h1 h2
    split at hx
    · rename_i nm hn
      obtain ⟨hc, hx⟩ := T.ask_ok hx
      obtain ⟨c1, c2⟩ := Bool.and_eq_true_iff.mp hc
      refine opv_own gd I rp i1 i2 r1 r2 h1 h2 hn c1 ?_ hx f
      rcases Bool.or_eq_true_iff.mp c2 with c2 | c2
      · cases d with
        | int i => exact .inl ⟨i, rfl⟩
        | _ => cases c2
      · exact .inr (of_decide_eq_true c2)
    · cases hx
  · rename_i d1 d2 hno h1 h2
    split at hx
    · rename_i w hw
      cases hx
      exact opv_bin I rp (i1.sees rp h1) (i2.sees rp h2) r1 r2 hw f
    · cases hx
  · cases hx
/-- two operands in a row, made to stay -/
theorem wx_two {k : Rv → Rv → T Rv} {op : Value → Value → Sem Value} (ha : Wx X a ma) (hb : Wx X b mb) (la : ∀ ρ, Lc (ma ρ)) (lb : ∀ ρ, Lc (mb ρ)) (A : At X σ H μ ρ F G) (I : Inv X pins σ H s) {R : VK}
    (hx : (T.bind (T.bind (ma ρ) fin) fun x => T.bind (T.bind (mb ρ) fin) fun y => k x y) G = some (r, G')) (f : Fn' X σ μ F G' r R)
    (ho : ∀ (pins : List (Addr × Obj)) (s : Shared) (H1 F1 : Hp) (G1 : Cs) (x y : Rv) (v1 v2 : V) (u1 u2 : Value), Inv X pins σ H1 s → At X σ H1 μ ρ F1 G1 → IsW X μ F1 G1 H1 x v1 → IsW X μ F1 G1 H1 y v2 → RelV v1 u1 → RelV v2 u2 → k x y G1 = some (r, G') → Fn' X σ μ F1 G' r R →
      wpAny (model X.prog X.w) X.A (op u1 u2) (EP X pins σ R) X.xe s) :
    wpAny (model X.prog X.w) X.A (eval a X.env) (fun v s₁ => wpAny (model X.prog X.w) X.A (eval b X.env) (fun u s₂ => wpAny (model X.prog X.w) X.A (op v u) (EP X pins σ R) X.xe s₂) X.xe s₁) X.xe s := by
  refine thn (ha.goF la I A hx f.e) fun u1 s1 ⟨v1, H1, I1, r1, x, G1, F1, n1, h1, h2, h3, l1, h4, h5⟩ => ?_
  refine thn (hb.goF lb I1 h3 h1 (f.mono h2).e) fun u2 s2 ⟨v2, H2, I2, r2, y, G2, F2, n2, k1, k2, k3, l2, k4, k5⟩ => ?_
  exact ho pins s2 H2 F2 G2 x y v1 v2 u1 u2 I2 k3 (h5.mono n1 k2 (Nat.le_of_eq l2.symm)) k5 r1 r2 k1 ((f.mono h2).mono k2)
theorem wx_bin {o : Operator} (gd : Good τ q n X) (ha : Wx X a ma) (hb : Wx X b mb) (la : ∀ ρ, Lc (ma ρ)) (lb : ∀ ρ, Lc (mb ρ)) :
    Wx X (.BinOp a o b pos) (fun ρ => T.bind (T.bind (ma ρ) fin) fun x => T.bind (T.bind (mb ρ) fin) fun y => eBin (hd τ.pg q n) o x y) := by
  refine ⟨fun pins s σ H R I ht => ?_⟩
  obtain ⟨μ, ρ, F, G, r, G', A, hx, fe, k⟩ := ht
  exact wpAny_BinOp (wx_two ha hb la lb A I hx ⟨fe, fun w e F' H' v e1 rp i => k w e F' H' e1 rp v i⟩ fun pins s H1 F1 G1 x y v1 v2 u1 u2 I1 A1 i1 i2 r1 r2 hx f => opv_eBin gd I1 A1.rep i1 i2 r1 r2 hx f)
theorem wx_neg (gd : Good τ q n X) (ha : Wx X a ma) (la : ∀ ρ, Lc (ma ρ)) : Wx X (.UnaryOp .USub a pos) (fun ρ => T.bind (T.bind (ma ρ) fin) fun x => eNeg (hd τ.pg q n) x) := by
  refine ⟨fun pins s σ H R I ht => ?_⟩
  obtain ⟨μ, ρ, F, G, r, G', A, hx, fe, k⟩ := ht
  have f : Fn' X σ μ F G' r R := ⟨fe, fun w e F' H' v e1 rp i => k w e F' H' e1 rp v i⟩
  refine UnaryOp_ (thn (ha.goF la I A hx fe) fun u1 s1 ⟨v1, H1, I1, r1, x, G1, F1, n1, h1, h2, h3, l1, h4, h5⟩ => ?_)
  have f := f.mono h2
  unfold eNeg at h1
  split at h1
  · rename_i i e1
    cases h1
    have ev : v1 = .int i := h5.sees h3.rep e1
    exact un_neg pins s1 σ H1 _ _ R I1 r1 ⟨i, ev, f.dat h3.rep rfl rfl⟩
  · rename_i C ns ds e1
    obtain ⟨hc, hx⟩ := T.ask_ok h1
    obtain ⟨a, dx, fs, rfl, rfl, ha⟩ := ins_at (x := .non) I1 (h5.sees h3.rep e1) r1
    obtain ⟨mA, O, _⟩ := ins_get I1.hok ha
    obtain ⟨od, J, _⟩ := O.look
    obtain ⟨m, hF⟩ := I1.fr
    obtain ⟨⟨fd, hfd⟩, run⟩ := run_fi (A' := X.A) rfl hx gd.lv gd.gd (gd.hr.mono (by omega)) I1.env0 I1 h3.rep (.cons h5 .nil) (.cons r1 .nil) f.cl
    have me := gd.kn.m C _ fd hfd
    exact PySem.W.ksp_neg hF I1.ok.mod.kin J me.at_ me.fn run
  · cases h1
/-! and, or, not, if -/
theorem asB_ok {w : Rv} {b : Bool} {G G' : Cs} (h : asB w G = some (.ok b, G')) : w = .d (.bool b) ∧ G' = G := by
  unfold asB at h
  split at h <;> cases h
  exact ⟨rfl, rfl⟩
theorem asB_no {w : Rv} {e : Err} {G G' : Cs} (h : asB w G = some (.error e, G')) : False := by
  unfold asB at h
  split at h <;> cases h
/-- a bool, as a fact -/
theorem Wx.goB {β : Type} {k : Bool → T β} {r : Except Err β} (h : Wx X e ma) (lm : ∀ ρ, Lc (ma ρ)) (I : Inv X pins σ H s) (A : At X σ H μ ρ F G) (hx : T.bind (T.bind (ma ρ) asB) k G = some (r, G')) (fe : FinE X σ μ F G' r) :
    wpAny (model X.prog X.w) X.A (eval e X.env) (fun u s1 => ∃ b H1 G1 F1, u = Value.bool b ∧ Inv X pins σ H1 s1 ∧ k b G1 = some (r, G') ∧ Ex F F1 ∧ At X σ H1 μ ρ F1 G1 ∧ G1.length = G.length ∧ FinE X σ μ F1 G' r) X.xe s := by
  rw [T.bind_assoc] at hx
  refine thn (h.go I A (lm ρ) hx fe) fun u s1 ⟨v, H1, I1, rv, w, G1, F1, h1, h2, h3, hl, h4, h5⟩ => ?_
  rcases T.bind_ok h1 with ⟨er, h6, _⟩ | ⟨b, G2, h6, h7⟩
  · exact (asB_no h6).elim
  · obtain ⟨rfl, rfl⟩ := asB_ok h6
    have ev : v = .bl b := h5
    subst ev
    cases rv
    exact ⟨b, H1, _, F1, rfl, I1, h7, h2, h3, hl, h4⟩
theorem wx_not (ha : Wx X a ma) (la : ∀ ρ, Lc (ma ρ)) : Wx X (.UnaryOp .Not a pos) (fun ρ => T.bind (T.bind (ma ρ) asB) fun x => T.pure (.d (.bool (!x)))) := by
  refine ⟨fun pins s σ H R I ht => ?_⟩
  obtain ⟨μ, ρ, F, G, r, G', A, hx, fe, k⟩ := ht
  refine UnaryOp_ (thn (ha.goB la I A hx fe) fun u s1 ⟨b, H1, G1, F1, eu, I1, h1, h2, h3, hl, h4⟩ => ?_)
  subst eu
  cases h1
  exact not_of (wpAny_truthy_bool ⟨.bl (!b), H1, I1, rfl, k _ rfl F1 H1 h2 h3.rep _ rfl⟩)
theorem wx_one {op : BoolOp} (h : Wx X a ma) : Wx X (.BoolOp op [a] pos) ma := ⟨fun pins s σ H R I ht => BoolOp_one (h.run pins s σ H R I ht)⟩
theorem wx_and {rest : List Expr} (ha : Wx X a ma) (hb : Wx X (.BoolOp .And (b :: rest) pos) mb) (la : ∀ ρ, Lc (ma ρ)) : Wx X (.BoolOp .And (a :: b :: rest) pos) (fun ρ => T.bind (T.bind (ma ρ) asB) fun x => cond x (mb ρ) (T.pure (.d (.bool false)))) := by
  refine ⟨fun pins s σ H R I ht => ?_⟩
  obtain ⟨μ, ρ, F, G, r, G', A, hx, fe, k⟩ := ht
  refine BoolOp_and (thn (ha.goB la I A hx fe) fun u s1 ⟨b, H1, G1, F1, eu, I1, h1, h2, h3, hl, h4⟩ => ?_)
  subst eu
  refine wpAny_truthy_bool ?_
  cases b with
  | true => exact hb.run pins s1 σ H1 R I1 ⟨μ, ρ, F1, G1, r, G', h3, h1, h4, fun w e F' H' e1 => k w e F' H' (h2.trans e1)⟩
  | false => cases h1; exact ⟨.bl false, H1, I1, rfl, k _ rfl F1 H1 h2 h3.rep _ rfl⟩
theorem wx_or {rest : List Expr} (ha : Wx X a ma) (hb : Wx X (.BoolOp .Or (b :: rest) pos) mb) (la : ∀ ρ, Lc (ma ρ)) : Wx X (.BoolOp .Or (a :: b :: rest) pos) (fun ρ => T.bind (T.bind (ma ρ) asB) fun x => cond x (T.pure (.d (.bool true))) (mb ρ)) := by
  refine ⟨fun pins s σ H R I ht => ?_⟩
  obtain ⟨μ, ρ, F, G, r, G', A, hx, fe, k⟩ := ht
  refine BoolOp_or (thn (ha.goB la I A hx fe) fun u s1 ⟨b, H1, G1, F1, eu, I1, h1, h2, h3, hl, h4⟩ => ?_)
  subst eu
  refine wpAny_truthy_bool ?_
  cases b with
  | false => exact hb.run pins s1 σ H1 R I1 ⟨μ, ρ, F1, G1, r, G', h3, h1, h4, fun w e F' H' e1 => k w e F' H' (h2.trans e1)⟩
  | true => cases h1; exact ⟨.bl true, H1, I1, rfl, k _ rfl F1 H1 h2 h3.rep _ rfl⟩
/-- e as a test, whatever its whole is -/
structure Wt (X : Cx) (e : Expr) (m : Env → T Bool) (whole : Sem Value) : Prop where
  run : ∀ (pins : List (Addr × Obj)) (s : Shared) (σ : L2.St) (H : Hp) (R : Bool → Hp → Prop), Inv X pins σ H s → tT X m σ H R → wpAny (model X.prog X.w) X.A (isTrue e X.env whole) (TP X pins σ R) X.xe s
theorem Wt.go {β : Type} {m : Env → T Bool} {k : Bool → T β} {r : Except Err β} {whole : Sem Value} (h : Wt X e m whole) (I : Inv X pins σ H s) (A : At X σ H μ ρ F G) (lm : Lc (m ρ)) (hx : T.bind (m ρ) k G = some (r, G')) (fe : FinE X σ μ F G' r) :
    wpAny (model X.prog X.w) X.A (isTrue e X.env whole) (fun b s1 => ∃ H1 G1 F1, Inv X pins σ H1 s1 ∧ k b G1 = some (r, G') ∧ Ex F F1 ∧ At X σ H1 μ ρ F1 G1 ∧ G1.length = G.length ∧ FinE X σ μ F1 G' r) X.xe s := by
  refine thn (h.run pins s σ H _ I (tT_go A lm hx fe fun w G1 F1 H1 _ h1 h2 h3 hl h4 => (⟨G1, F1, h1, h2, h3, hl, h4⟩ : ∃ G1 F1, k w G1 = some (r, G') ∧ Ex F F1 ∧ At X σ H1 μ ρ F1 G1 ∧ G1.length = G.length ∧ FinE X σ μ F1 G' r))) fun b s1 ⟨H1, I1, G1, F1, z⟩ => ⟨H1, G1, F1, I1, z⟩
theorem wt_not {whole : Sem Value} (ha : Wt X a (fun ρ => T.bind (ma ρ) asB) (eval a X.env)) (la : ∀ ρ, Lc (ma ρ)) : Wt X (.UnaryOp .Not a pos) (fun ρ => T.bind (T.bind (T.bind (ma ρ) asB) fun x => T.pure (.d (.bool (!x)))) asB) whole := by
  refine ⟨fun pins s σ H R I ht => ?_⟩
  obtain ⟨μ, ρ, F, G, r, G', A, hx, fe, k⟩ := ht
  dsimp only at hx
  rw [T.bind_assoc] at hx
  refine isTrue_not (thn (ha.go I A (.bind (la ρ) Lc.asB) hx fe) fun x s1 ⟨H1, G1, F1, I1, h1, h2, h3, hl, h4⟩ => ?_)
  cases h1
  exact ⟨H1, I1, k _ rfl F1 H1 h2 h3.rep⟩
theorem cond_bind {α β : Type} (c : Bool) (m n : T α) (k : α → T β) : T.bind (cond c m n) k = cond c (T.bind m k) (T.bind n k) := by cases c <;> rfl
theorem wt_and1 {whole : Sem Value} (ha : Wt X a (fun ρ => T.bind (ma ρ) asB) (eval a X.env)) (la : ∀ ρ, Lc (ma ρ)) : Wt X (.BoolOp .And [a] pos) (fun ρ => T.bind (ma ρ) asB) whole := by
  refine ⟨fun pins s σ H R I ht => ?_⟩
  obtain ⟨μ, ρ, F, G, r, G', A, hx, fe, k⟩ := ht
  dsimp only at hx
  rw [← T.bind_pure (T.bind (ma ρ) asB)] at hx
  refine isTrue_and (thn (ha.go I A (.bind (la ρ) Lc.asB) hx fe) fun x s1 ⟨H1, G1, F1, I1, h1, h2, h3, hl, h4⟩ => ?_)
  cases h1
  cases x with
  | true => exact isTrue_and_nil ⟨H1, I1, k _ rfl F1 H1 h2 h3.rep⟩
  | false => exact ⟨H1, I1, k _ rfl F1 H1 h2 h3.rep⟩
theorem wt_or1 {whole : Sem Value} (ha : Wt X a (fun ρ => T.bind (ma ρ) asB) (eval a X.env)) (la : ∀ ρ, Lc (ma ρ)) : Wt X (.BoolOp .Or [a] pos) (fun ρ => T.bind (ma ρ) asB) whole := by
  refine ⟨fun pins s σ H R I ht => ?_⟩
  obtain ⟨μ, ρ, F, G, r, G', A, hx, fe, k⟩ := ht
  dsimp only at hx
  rw [← T.bind_pure (T.bind (ma ρ) asB)] at hx
  refine isTrue_or (thn (ha.go I A (.bind (la ρ) Lc.asB) hx fe) fun x s1 ⟨H1, G1, F1, I1, h1, h2, h3, hl, h4⟩ => ?_)
  cases h1
  cases x with
  | false => exact isTrue_or_nil ⟨H1, I1, k _ rfl F1 H1 h2 h3.rep⟩
  | true => exact ⟨H1, I1, k _ rfl F1 H1 h2 h3.rep⟩
theorem wt_and {rest : List Expr} {whole : Sem Value} (ha : Wt X a (fun ρ => T.bind (ma ρ) asB) (eval a X.env)) (hb : ∀ w, Wt X (.BoolOp .And (b :: rest) pos) (fun ρ => T.bind (mb ρ) asB) w) (la : ∀ ρ, Lc (ma ρ)) :
    Wt X (.BoolOp .And (a :: b :: rest) pos) (fun ρ => T.bind (T.bind (T.bind (ma ρ) asB) fun x => cond x (mb ρ) (T.pure (.d (.bool false)))) asB) whole := by
  refine ⟨fun pins s σ H R I ht => ?_⟩
  obtain ⟨μ, ρ, F, G, r, G', A, hx, fe, k⟩ := ht
  dsimp only at hx
  rw [T.bind_assoc] at hx
  refine isTrue_and (thn (ha.go I A (.bind (la ρ) Lc.asB) hx fe) fun x s1 ⟨H1, G1, F1, I1, h1, h2, h3, hl, h4⟩ => ?_)
  cases x with
  | true => exact (hb whole).run pins s1 σ H1 R I1 ⟨μ, ρ, F1, G1, r, G', h3, h1, h4, fun w e F' H' e1 => k w e F' H' (h2.trans e1)⟩
  | false => cases h1; exact ⟨H1, I1, k _ rfl F1 H1 h2 h3.rep⟩
theorem wt_or {rest : List Expr} {whole : Sem Value} (ha : Wt X a (fun ρ => T.bind (ma ρ) asB) (eval a X.env)) (hb : ∀ w, Wt X (.BoolOp .Or (b :: rest) pos) (fun ρ => T.bind (mb ρ) asB) w) (la : ∀ ρ, Lc (ma ρ)) :
    Wt X (.BoolOp .Or (a :: b :: rest) pos) (fun ρ => T.bind (T.bind (T.bind (ma ρ) asB) fun x => cond x (T.pure (.d (.bool true))) (mb ρ)) asB) whole := by
  refine ⟨fun pins s σ H R I ht => ?_⟩
  obtain ⟨μ, ρ, F, G, r, G', A, hx, fe, k⟩ := ht
  dsimp only at hx
  rw [T.bind_assoc] at hx
  refine isTrue_or (thn (ha.go I A (.bind (la ρ) Lc.asB) hx fe) fun x s1 ⟨H1, G1, F1, I1, h1, h2, h3, hl, h4⟩ => ?_)
  cases x with
  | false => exact (hb whole).run pins s1 σ H1 R I1 ⟨μ, ρ, F1, G1, r, G', h3, h1, h4, fun w e F' H' e1 => k w e F' H' (h2.trans e1)⟩
  | true => cases h1; exact ⟨H1, I1, k _ rfl F1 H1 h2 h3.rep⟩
/-- a value that is a bool, as a test -/
theorem Wx.wt (h : Wx X e ma) (lm : ∀ ρ, Lc (ma ρ)) (he : ∀ whole, isTrue e X.env whole = (do let v ← whole; standAt e.pos; holding [v] (truthy v))) : Wt X e (fun ρ => T.bind (ma ρ) asB) (eval e X.env) :=
  ⟨(h.test lm he).run⟩
theorem wx_ite (hc : Wt X c (fun ρ => T.bind (mc ρ) asB) (eval c X.env)) (ha : Wx X a ma) (hb : Wx X b mb) (lc : ∀ ρ, Lc (mc ρ)) : Wx X (.IfExp c a b pos) (fun ρ => T.bind (T.bind (mc ρ) asB) fun x => cond x (ma ρ) (mb ρ)) := by
  refine ⟨fun pins s σ H R I ht => ?_⟩
  obtain ⟨μ, ρ, F, G, r, G', A, hx, fe, k⟩ := ht
  refine wpAny_IfExp (thn (hc.go I A (.bind (lc ρ) Lc.asB) hx fe) fun x s1 ⟨H1, G1, F1, I1, h1, h2, h3, hl, h4⟩ => ?_)
  cases x with
  | true => exact ha.run pins s1 σ H1 R I1 ⟨μ, ρ, F1, G1, r, G', h3, h1, h4, fun w e F' H' e1 => k w e F' H' (h2.trans e1)⟩
  | false => exact hb.run pins s1 σ H1 R I1 ⟨μ, ρ, F1, G1, r, G', h3, h1, h4, fun w e F' H' e1 => k w e F' H' (h2.trans e1)⟩
end
end L4

set_option Elab.async false
set_option linter.all false
set_option maxRecDepth 100000
set_option maxHeartbeats 4000000
/-! Comparisons. -/
namespace L4
open PySem PySem.Spec PyProof.Rows L2
section
variable {X : Cx} {σ : L2.St} {H : Hp} {μ : Nat → Addr} {ρ : Env} {F F1 : Hp} {G G1 G' : Cs} {e a b c : Expr} {ma mb mc : Env → T Rv} {pins : List (Addr × Obj)} {s : Shared} {τ : Tb} {q : Bool} {n : Nat} {pos : Pos} {r : Except Err Rv} {R : VK}
theorem ne_K {prog : Program} {w : World} {A : Around} {E : Value → Shared → Prop} {s : Shared} {K : PySem.W.Frag} {x C f : Addr} {ox : Obj} {od : Option Obj} {b tb : Value} {Q : Value → Shared → Prop} (hu : A.units + 1 < cLine) (Xk : K.In s.heap) (I : PySem.W.InstAt s.heap x ox C od)
    (hb : PySem.W.Looks (model prog w) s.heap (typeOf b) tb) (hn : PySem.W.notFirst K C tb = true) (hne : PySem.W.findIn K (.ref C) "__ne__" = some (some (.builtin "object.__ne__"))) (hs : PySem.W.findIn K (.ref C) "__eq__" = some (some (.ref f))) (hf : PySem.W.isFn K (.ref f) = true)
    (sub : PySem.W.mroIn K C (.type "object") = some true) (h : wpAny (model prog w) A.in1 (PySem.call (.ref f) [.ref x, b]) (fun v s' => ∃ c, v = .bool c ∧ Q (.bool (!c)) s') E s) : wpAny (model prog w) A (richCompare .NotEq (.ref x) b) Q E s := by
  have SL := PySem.F.cmp_object.ne
  have isub : PySem.W.Looks (model prog w) s.heap (isInstance (.ref x) (.type "object")) true := I.type.andThen (PySem.W.looks_mroIn Xk sub)
  have inner : wpAny (model prog w) A.in1 (Builtin.«object.__ne__» ⟨[.ref x, b], []⟩) (fun fin s' => match fin with | .done (.ret v) => (∃ c, v = Value.bool c ∧ Q (.bool c) s') | _ => False) E s := by
    unfold Builtin.«object.__ne__»
    refine wpAny_bind (wpAny_of_eq (a := (.ref x, [b])) (by first | rfl | kernel_rfl) ?_)
    refine wpAny_bind (wpAny_cRoomFor (by exact hu) ?_)
    refine wpAny_bind (m := callSpecialIfBound? (.ref x) (Str.ofString "__eq__") [b]) (PySem.W.ifBound_K Xk I hs hf (wpAny_mono h (fun v s' hv => ?_) fun _ _ e => e))
    obtain ⟨c, rfl, q⟩ := hv
    refine wpAny_bind (wpAny_truthy_bool ?_)
    exact wpAny_pure ⟨!c, rfl, q⟩
  have one : wpAny (model prog w) A (tryCompare (.ref x) "__ne__" b) (fun r s' => ∃ v, r = some v ∧ Q v s') E s := by
    unfold tryCompare
    refine wpAny_bind ?_
    simp only [callSpecialIfBound?, bindSpecialIfBound?]
    refine wpAny_holding (wpAny_bind (wpAny_bind (wpAny_bind (I.type.here ((PySem.W.looks_findIn Xk hne).here ?_)))))
    have fin : wpAny (model prog w) A (PySem.call (.builtin "object.__ne__") ([.ref x] ++ [b]) >>= fun v => pure (some v)) (fun r s' => wpAny (model prog w) A (match r with | some .notImplemented | none => pure none | some v => pure (some v)) (fun r s' => ∃ v, r = some v ∧ Q v s') E s') E s := by
      refine wpAny_bind (wpAny_call (codeAny_call_builtin SL.plain PySem.F.cmpEntry_ne (PySem.W.check_slot PySem.F.cmpKind_ne PySem.F.cmpSplit_ne isub (PySem.F.cmpArgs_ne _ _) ?_)))
      refine wpAny_mono inner (fun fin s' hz => ?_) fun _ _ e => e
      cases fin with
      | done fl =>
        cases fl with
        | ret v =>
          obtain ⟨c, rfl, q⟩ := hz
          exact wpAny_pure (wpAny_pure ⟨_, rfl, q⟩)
        | _ => exact hz.elim
      | _ => exact hz.elim
    refine wpAny_bind (wpAny_askSetting (wpAny_ite ?_))
    split
    · exact wpAny_bind (wpAny_of_eq (SL.bind _) (wpAny_pure (by exact fin)))
    · exact wpAny_tryCatch (wpAny_bind (wpAny_of_eq (SL.bind _) (wpAny_pure (by exact fin))))
  unfold richCompare
  simp only [oneThing_ref]
  refine wpAny_holding (wpAny_bind (wpAny_cRoomFor (by omega) ?_))
  refine wpAny_bind (I.type.here (wpAny_bind (hb.here ?_)))
  split
  · rename_i q
    have e : PySem.W.subIn K tb (.ref C) = some false := by
      rcases Bool.or_eq_true_iff.mp hn with e | e
      · rw [beq_iff_eq.mp e] at q; simp at q
      · exact beq_iff_eq.mp e
    refine wpAny_bind ((PySem.W.looks_subIn Xk e).here ?_)
    simp only [Bool.false_eq_true, if_false]
    refine wpAny_bind (wpAny_mono one (fun r s' z => ?_) fun _ _ e => e)
    obtain ⟨v, rfl, hq⟩ := z
    exact wpAny_pure hq
  · refine wpAny_bind (wpAny_pure ?_)
    simp only [Bool.false_eq_true, if_false]
    refine wpAny_bind (wpAny_mono one (fun r s' z => ?_) fun _ _ e => e)
    obtain ⟨v, rfl, hq⟩ := z
    exact wpAny_pure hq

mutual
theorem is_dp {K : PySem.W.Frag} {F H : Hp} (e : Ex F H) : ∀ (d : D) (v : V), seqD d = true → Is K F d v → Dp K H v (pyD d)
  | .non, _, _, h => by
    rw [show _ = V.non from h]
    exact .non
  | .bool b, _, _, h => by
    rw [show _ = V.bl b from h]
    exact .bl b
  | .int b, _, _, h => by
    rw [show _ = V.int b from h]
    exact .int b
  | .str b, _, _, h => by
    rw [show _ = V.str b from h]
    exact .str b
  | .lst ds, _, hs, h => by
    obtain ⟨a, vs, rfl, h2, h3⟩ := h
    exact .lst (.inl (.inl (e _ _ h2))) (is_dpL e ds vs hs h3)
  | .tup ds, _, hs, h => by
    obtain ⟨a, vs, rfl, h2, h3⟩ := h
    exact .tup (.inl (.inl (e _ _ h2))) (is_dpL e ds vs hs h3)
  | .scr _, _, hs, _ => by cases hs
  | .ty _, _, hs, _ => by cases hs
  | .cl _, _, hs, _ => by cases hs
  | .dK _ _, _, hs, _ => by cases hs
  | .dT _ _, _, hs, _ => by cases hs
  | .ins _ _ _, _, hs, _ => by cases hs
theorem is_dpL {K : PySem.W.Frag} {F H : Hp} (e : Ex F H) : ∀ (ds : List D) (vs : List V), seqL ds = true → IsL K F ds vs → DpAll K H vs (pyL ds)
  | [], _, _, h => by
    rw [show _ = [] from h]
    exact .nil
  | d :: ds, _, hs, h => by
    obtain ⟨v, r, rfl, h1, h2⟩ := h
    obtain ⟨s1, s2⟩ := Bool.and_eq_true_iff.mp (show (seqD d && seqL ds) = true from hs)
    exact .cons (is_dp e d v s1 h1) (is_dpL e ds r s2 h2)
end
theorem sees_dp {K : PySem.W.Frag} (e : Ex F H) {d : D} {v : V} (hs : seqD d = true) (h : Sees K F H d v) : Dp K H v (pyD d) := by
  cases d with
  | lst ds =>
    obtain ⟨a, vs, rfl, h2, h3⟩ := h
    exact .lst (.inl (.inl h2)) (is_dpL e ds vs hs h3)
  | dK _ _ => cases hs
  | dT _ _ => cases hs
  | ins _ _ _ => cases hs
  | _ => exact is_dp e _ _ hs h
def isN : D → Bool
  | .non => true
  | _ => false
theorem isN_eq (d : D) : (match d with | .non => true | _ => false) = isN d := by cases d <;> rfl
theorem isN_ne (d : D) : (match d with | .non => false | _ => true) = !isN d := by cases d <;> rfl
theorem sees_non {K : PySem.W.Frag} {d : D} {v : V} (h : Sees K F H d v) : decide (v = .non) = isN d := by
  cases d with
  | non => cases (show v = .non from h); rfl
  | scr ns => obtain ⟨a, rfl, _⟩ := h; rfl
  | ty t => cases (show v = .ty t from h); rfl
  | cl t => cases (show v = .ref _ from h); rfl
  | bool b => cases (show v = .bl b from h); rfl
  | int i => cases (show v = .int i from h); rfl
  | str x => cases (show v = .str x from h); rfl
  | lst ds => obtain ⟨a, vs, rfl, _⟩ := h; rfl
  | tup ds => obtain ⟨a, vs, rfl, _⟩ := h; rfl
  | dK ks ds => obtain ⟨a, vs, rfl, _⟩ := h; rfl
  | dT ks ds => obtain ⟨a, vs, rfl, _⟩ := h; rfl
  | ins C ns ds => obtain ⟨a, dx, vs, rfl, _⟩ := h; rfl
theorem units_of (gd : Good τ q n X) : X.A.units + 64 < cLine := gd.hr.units
theorem pyL_eq : ∀ ds : List D, pyL ds = ds.map pyD
  | [] => rfl
  | d :: ds => by
    show pyD d :: pyL ds = _
    rw [pyL_eq ds]; rfl
theorem any_py {ys : List D} {p : PyData → Bool} : (pyL ys).any p = ys.any fun y => p (pyD y) := by
  rw [pyL_eq, List.any_map]; rfl
/-! ### what a dict holds -/
theorem valV_cons {κ : Type} [DecidableEq κ] {k k' : κ} {v : V} {kvs : List (κ × V)} : valV ((k', v) :: kvs) k = if k' = k then some v else valV kvs k := by
  by_cases e : k' = k
  · rw [if_pos e]; exact valV_pos e
  · rw [if_neg e]; exact valV_neg e
def OptIs (K : PySem.W.Frag) (F : Hp) : Option D → Option V → Prop
  | some x, some v => Is K F x v
  | none, none => True
  | _, _ => False
theorem at_val {K : PySem.W.Frag} {κ : Type} [DecidableEq κ] {k : κ} : ∀ {ks : List κ} {ds : List D} {vs : List V}, IsL K F ds vs → OptIs K F (at_ k ks ds) (valV (ks.zip vs) k)
  | [], _, _, _ => by simp [at_, valV, OptIs]
  | _ :: _, [], _, h => by rw [show _ = [] from h]; simp [at_, valV, OptIs]
  | k' :: ks, d :: ds, _, h => by
    obtain ⟨v, r, rfl, h1, h2⟩ := h
    rw [List.zip_cons_cons, valV_cons]
    unfold at_
    by_cases e : k' = k
    · rw [if_pos e, if_pos e]; exact h1
    · rw [if_neg e, if_neg e]; exact at_val h2
theorem toKey_ok {K : PySem.W.Frag} {d : D} {k : Key} {v : V} (h : toKey d = some k) (i : Sees K F H d v) : v = kV k := by
  cases d <;> first | cases h | skip
  all_goals exact i
theorem toKeys_ok {K : PySem.W.Frag} : ∀ {ds : List D} {ks : List Key} {vs : List V}, toKeys ds = some ks → IsL K F ds vs → vs = ks.map kV
  | [], ks, vs, h, i => by cases h; exact i
  | d :: ds, ks, vs, h, i => by
    obtain ⟨v, r, rfl, h1, h2⟩ := i
    unfold toKeys at h
    split at h
    · rename_i k ks' e1 e2
      cases h
      rw [toKeys_ok e2 h2, List.map_cons]
      congr 1
      cases d <;> first | cases e1 | skip
      all_goals exact h1
    · cases h
theorem toTKey_ok {K : PySem.W.Frag} {d : D} {k : List Key} {v : V} (e : Ex F H) (h : toTKey d = some k) (i : Sees K F H d v) : ∃ b, v = .ref b ∧ H b = some (.tup (k.map kV)) := by
  cases d <;> first | cases h | skip
  obtain ⟨b, vs, rfl, h1, h2⟩ := i
  have := toKeys_ok h h2
  subst this
  exact ⟨b, rfl, e _ _ h1⟩
/-- what the dict at a holds at y; the empty one holds nothing at a tuple either -/
def DG (H : Hp) (a : Addr) (y : V) (r : Option V) : Prop := DGet H a y r ∨ (Rd H a (.dK []) ∧ (∃ (b : Addr) (k : List Key), y = .ref b ∧ H b = some (.tup (k.map kV))) ∧ r = none)
theorem dget_ok {K : PySem.W.Frag} {d k : D} {o : Option D} {v1 v2 : V} (e : Ex F H) (h1 : Sees K F H k v1) (h2 : Sees K F H d v2) (hx : dget d k = some o) : ∃ a w, v2 = .ref a ∧ DG H a v1 w ∧ OptIs K F o w := by
  cases d <;> first | cases hx | skip
  case dK ks vs =>
    obtain ⟨a, us, rfl, e1, _, i1⟩ := h2
    unfold dget at hx
    dsimp only at hx
    split at hx
    · rename_i kk hk
      cases hx
      exact ⟨a, _, rfl, .inl (.inl ⟨_, kk, e1, toKey_ok hk h1, rfl⟩), at_val i1⟩
    · rename_i kk hk hk2
      split at hx
      · rename_i hks
        subst hks
        cases hx
        obtain ⟨b, h3, h4⟩ := toTKey_ok e hk2 h1
        exact ⟨a, none, rfl, .inr ⟨e1, ⟨b, kk, h3, h4⟩, rfl⟩, trivial⟩
      · cases hx
    · cases hx
  case dT ks vs =>
    obtain ⟨a, us, rfl, e1, _, i1⟩ := h2
    unfold dget at hx
    dsimp only at hx
    split at hx
    · rename_i kk hk
      cases hx
      obtain ⟨b, h3, h4⟩ := toTKey_ok e hk h1
      exact ⟨a, _, rfl, .inl (.inr ⟨_, kk, b, e1, h3, h4, rfl⟩), at_val i1⟩
    · cases hx
section
variable {A : Around} {E : Value → Shared → Prop} {a : Addr} {y d : V} {u r : Value} {o : Option V}
theorem dt_rd0 (I : Inv X pins σ H s) (e : Rd H a (.dK [])) : (a == sysModules) = false ∧ s.heap.DictOfH (tupleKind (mixKind X.prog X.w)) a [] := by
  obtain ⟨_, hsys, xs, kv, o, es, ep, ho, hex, hd, _, hp, _⟩ := rd_of I.hok e
  cases kv
  have hes : es.toList = [] := by
    cases q : es.toList with
    | nil => rfl
    | cons z zs => rw [q] at hp; cases hp
  exact ⟨hsys, o, es, ep, ho, hex, hd, by rw [hes]; rfl, ⟨fun x hx => absurd hx (List.not_mem_nil), List.nodup_nil⟩⟩
theorem dg_getItem {Q : Value → Shared → Prop} {v : V} (hu : A.units + 1 < cLine) (I : Inv X pins σ H s) (g : DG H a y (some v)) (ry : RelV y u) (h : ∀ w' s', Inv X pins σ H s' → RelV v w' → Q w' s') :
    wpAny (model X.prog X.w) A (getItem (.ref a) u) Q E s := by
  rcases g with g | ⟨_, _, z⟩
  · exact d_getItem hu I g ry h
  · cases z
theorem dg_in {Q : Value → Shared → Prop} (hu : A.units + 1 < cLine) (I : Inv X pins σ H s) (g : DG H a y o) (ry : RelV y u) (h : ∀ s', Inv X pins σ H s' → Q (.bool o.isSome) s') :
    wpAny (model X.prog X.w) A (compareOp .In u (.ref a)) Q E s := by
  rcases g with g | ⟨e, ⟨b, k, rfl, eb⟩, rfl⟩
  · exact d_in hu I g ry h
  · cases (show u = Value.ref b from ry)
    obtain ⟨hd, dd⟩ := dt_rd0 I e
    exact wpAny_in_heap (tupleKind_room_in1 hu) (key_of I.hok eb) hd dd (h _ (I.tok _))
theorem dg_notIn {Q : Value → Shared → Prop} (hu : A.units + 1 < cLine) (I : Inv X pins σ H s) (g : DG H a y o) (ry : RelV y u) (h : ∀ s', Inv X pins σ H s' → Q (.bool (!o.isSome)) s') :
    wpAny (model X.prog X.w) A (compareOp .NotIn u (.ref a)) Q E s := by
  rcases g with g | ⟨e, ⟨b, k, rfl, eb⟩, rfl⟩
  · exact d_notIn hu I g ry h
  · cases (show u = Value.ref b from ry)
    obtain ⟨hd, dd⟩ := dt_rd0 I e
    exact wpAny_notIn_heap (tupleKind_room_in1 hu) (key_of I.hok eb) hd dd (h _ (I.tok _))
theorem dg_get1 {Q : Value → Shared → Prop} (hu : A.units + 1 < cLine) (I : Inv X pins σ H s) (g : DG H a y o) (ry : RelV y u) (h : ∀ w' s', Inv X pins σ H s' → RelV (o.getD .non) w' → Q w' s') :
    wpAny (model X.prog X.w) A (PySem.call (.builtin "dict.get") [.ref a, u]) Q E s := by
  rcases g with g | ⟨e, ⟨b, k, rfl, eb⟩, rfl⟩
  · exact d_get1 hu I g ry h
  · cases (show u = Value.ref b from ry)
    obtain ⟨hd, dd⟩ := dt_rd0 I e
    obtain ⟨t1, t2, _⟩ := isD_at I (.inl ⟨_, e⟩)
    exact call_meetsIn PySem.F.slot_dict_get t1 PySem.F.entry_dict_get (PySem.F.args_dict_get_2 _ _) (meetsH_dict_get (tupleKind (mixKind X.prog X.w)) a b hd) ⟨tupleKind_room_in1 hu, k, [], key_of I.hok eb, dd, h _ _ (I.tok _) rfl⟩
theorem dg_get2 {Q : Value → Shared → Prop} (hu : A.units + 1 < cLine) (I : Inv X pins σ H s) (g : DG H a y o) (ry : RelV y u) (rd : RelV d r) (h : ∀ w' s', Inv X pins σ H s' → RelV (o.getD d) w' → Q w' s') :
    wpAny (model X.prog X.w) A (PySem.call (.builtin "dict.get") [.ref a, u, r]) Q E s := by
  rcases g with g | ⟨e, ⟨b, k, rfl, eb⟩, rfl⟩
  · exact d_get2 hu I g ry rd h
  · cases (show u = Value.ref b from ry)
    obtain ⟨hd, dd⟩ := dt_rd0 I e
    obtain ⟨t1, t2, _⟩ := isD_at I (.inl ⟨_, e⟩)
    exact call_meetsIn PySem.F.slot_dict_get t1 PySem.F.entry_dict_get (PySem.F.args_dict_get_3 _ _ _) (meetsH_dict_get_default (tupleKind (mixKind X.prog X.w)) a b hd r) ⟨tupleKind_room_in1 hu, k, [], key_of I.hok eb, dd, h _ _ (I.tok _) rd⟩
end
/-- a comparison of plain data -/
theorem opv_cmp {o : CmpOp} {x y : D} {v1 v2 : V} {u1 u2 : Value} {c : Bool} (hu : X.A.units + 65 < cLine) (I : Inv X pins σ H s) (rp : Rep X.K μ F G H) (h1 : Sees X.K F H x v1) (h2 : Sees X.K F H y v2) (r1 : RelV v1 u1) (r2 : RelV v2 u2) (hx : cmpD o x y = some c)
    (f : R (.bl c) H) : wpAny (model X.prog X.w) X.A (compareOp o u1 u2) (EP X pins σ R) X.xe s := by
  have plain : ∀ {x y : D} {v1 v2 : V}, Sees X.K F H x v1 → Sees X.K F H y v2 → RelV v1 u1 → RelV v2 u2 → eqOk x = true → eqOk y = true → (o = .Eq ∧ c = PyData.eqv (pyD x) (pyD y) ∨ o = .NotEq ∧ c = !PyData.eqv (pyD x) (pyD y)) → wpAny (model X.prog X.w) X.A (compareOp o u1 u2) (EP X pins σ R) X.xe s := by
    intro x y v1 v2 h1 h2 r1 r2 o1 o2 ho
    obtain ⟨a1, a2⟩ := Bool.and_eq_true_iff.mp o1
    obtain ⟨b1, b2⟩ := Bool.and_eq_true_iff.mp o2
    rcases ho with ⟨rfl, rfl⟩ | ⟨rfl, rfl⟩
    · exact op_eqD (by omega) pins s σ H _ _ _ _ R I r1 r2 ⟨_, _, sees_dp rp.sub a1 h1, sees_dp rp.sub b1 h2, a2, b2, f⟩
    · exact op_neD (by omega) pins s σ H _ _ _ _ R I r1 r2 ⟨_, _, sees_dp rp.sub a1 h1, sees_dp rp.sub b1 h2, a2, b2, f⟩
  unfold cmpD at hx
  split at hx
  · rename_i i j
    have e1 : v1 = .int i := h1
    have e2 : v2 = .int j := h2
    subst e1 e2
    cases o <;> first | (cases hx; done) | skip
    case Lt => cases hx; exact op_lt pins s σ H _ _ _ _ R I r1 r2 ⟨i, j, rfl, rfl, f⟩
    case LtE => cases hx; exact op_le pins s σ H _ _ _ _ R I r1 r2 ⟨i, j, rfl, rfl, f⟩
    case Gt => cases hx; exact op_gt pins s σ H _ _ _ _ R I r1 r2 ⟨i, j, rfl, rfl, f⟩
    case GtE => cases hx; exact op_ge pins s σ H _ _ _ _ R I r1 r2 ⟨i, j, rfl, rfl, f⟩
    case Eq => cases hx; exact op_eq pins s σ H _ _ _ _ R I r1 r2 ⟨rfl, by simpa using f⟩
    case NotEq => cases hx; exact op_ne pins s σ H _ _ _ _ R I r1 r2 ⟨rfl, by simpa using f⟩
  · rename_i i j
    have e1 : v1 = .str i := h1
    have e2 : v2 = .str j := h2
    subst e1 e2
    cases o <;> first | (cases hx; done) | skip
    case Lt => cases hx; exact op_lt_str pins s σ H _ _ _ _ R I r1 r2 ⟨i, j, rfl, rfl, f⟩
    case LtE => cases hx; exact op_le_str pins s σ H _ _ _ _ R I r1 r2 ⟨i, j, rfl, rfl, f⟩
    case Gt => cases hx; exact op_gt_str pins s σ H _ _ _ _ R I r1 r2 ⟨i, j, rfl, rfl, f⟩
    case Eq => cases hx; exact op_eq pins s σ H _ _ _ _ R I r1 r2 ⟨rfl, by simpa using f⟩
    case NotEq => cases hx; exact op_ne pins s σ H _ _ _ _ R I r1 r2 ⟨rfl, by simpa using f⟩
    case In => cases hx; exact op_in_str pins s σ H _ _ _ _ R I r1 r2 ⟨i, j, rfl, rfl, f⟩
    case NotIn => cases hx; exact op_notIn_str pins s σ H _ _ _ _ R I r1 r2 ⟨i, j, rfl, rfl, f⟩
  · have e2 : v2 = .non := h2
    subst e2
    cases o <;> first | (cases hx; done) | skip
    case Is =>
      dsimp only at hx
      cases hx
      refine op_isN1 pins s σ H _ _ _ _ R I r1 r2 ⟨rfl, ?_⟩
      rw [sees_non h1, ← isN_eq]; exact f
    case IsNot =>
      dsimp only at hx
      cases hx
      refine op_notN1 pins s σ H _ _ _ _ R I r1 r2 ⟨rfl, ?_⟩
      rw [sees_non h1, ← isN_ne]; exact f
    case Eq =>
      obtain ⟨k, e⟩ := askO_ok hx
      cases e
      exact plain (y := .non) h1 h2 r1 r2 k rfl (.inl ⟨rfl, rfl⟩)
    case NotEq =>
      obtain ⟨k, e⟩ := askO_ok hx
      cases e
      exact plain (y := .non) h1 h2 r1 r2 k rfl (.inr ⟨rfl, rfl⟩)
  · have dct : ∀ {w : Option D}, dget y x = some w → (o = .In ∧ c = w.isSome ∨ o = .NotIn ∧ c = !w.isSome) → wpAny (model X.prog X.w) X.A (compareOp o u1 u2) (EP X pins σ R) X.xe s := by
      intro w hw ho
      obtain ⟨a, z, rfl, g, oi⟩ := dget_ok rp.sub h1 h2 hw
      cases (show u2 = Value.ref a from r2)
      have e : z.isSome = w.isSome := by cases w <;> cases z <;> first | rfl | exact oi.elim
      rcases ho with ⟨rfl, rfl⟩ | ⟨rfl, rfl⟩
      · exact dg_in (by omega) I g r1 fun s' I' => ⟨.bl _, H, I', rfl, by rw [e]; exact f⟩
      · exact dg_notIn (by omega) I g r1 fun s' I' => ⟨.bl _, H, I', rfl, by rw [e]; exact f⟩
    have lst : ∀ {ys : List D}, (y = .lst ys ∨ y = .tup ys) → eqOk x = true → eqOk y = true → (o = .In ∧ c = (ys.any fun z => PyData.eqv (pyD z) (pyD x)) ∨ o = .NotIn ∧ c = !(ys.any fun z => PyData.eqv (pyD z) (pyD x))) → wpAny (model X.prog X.w) X.A (compareOp o u1 u2) (EP X pins σ R) X.xe s := by
      intro ys hy o1 o2 ho
      obtain ⟨a1, a2⟩ := Bool.and_eq_true_iff.mp o1
      obtain ⟨b1, b2⟩ := Bool.and_eq_true_iff.mp o2
      rcases hy with rfl | rfl
      · have e : (pyL ys).any (fun z => PyData.eqv z (pyD x)) = ys.any fun z => PyData.eqv (pyD z) (pyD x) := any_py
        rcases ho with ⟨rfl, rfl⟩ | ⟨rfl, rfl⟩
        · exact op_inD hu pins s σ H _ _ _ _ R I r1 r2 ⟨_, pyL ys, sees_dp rp.sub a1 h1, sees_dp rp.sub b1 h2, a2, b2, by rw [e]; exact f⟩
        · exact op_notInD hu pins s σ H _ _ _ _ R I r1 r2 ⟨_, pyL ys, sees_dp rp.sub a1 h1, sees_dp rp.sub b1 h2, a2, b2, by rw [e]; exact f⟩
      · have e : (pyL ys).any (fun z => PyData.eqv z (pyD x)) = ys.any fun z => PyData.eqv (pyD z) (pyD x) := any_py
        obtain ⟨as, q1⟩ := Dp.reads I _ _ _ (sees_dp rp.sub a1 h1) r1
        obtain ⟨bs, q2⟩ := Dp.reads I (.tuple (pyL ys)) _ _ (sees_dp rp.sub b1 h2) r2
        rcases ho with ⟨rfl, rfl⟩ | ⟨rfl, rfl⟩
        · exact SeqAt.in_tuple_reads q2 q1 (SeqAt.canLay_of_shaped b2) (SeqAt.canLay_of_shaped a2) (room_in_shaped a2 hu) ⟨.bl _, H, I, rfl, by rw [e]; exact f⟩
        · exact SeqAt.notIn_tuple_reads q2 q1 (SeqAt.canLay_of_shaped b2) (SeqAt.canLay_of_shaped a2) (room_in_shaped a2 hu) ⟨.bl _, H, I, rfl, by rw [e]; exact f⟩
    cases o <;> first | (cases hx; done) | skip
    case Eq =>
      obtain ⟨k, e⟩ := askO_ok hx
      obtain ⟨k1, k2⟩ := Bool.and_eq_true_iff.mp k
      cases e
      exact plain h1 h2 r1 r2 k1 k2 (.inl ⟨rfl, rfl⟩)
    case NotEq =>
      obtain ⟨k, e⟩ := askO_ok hx
      obtain ⟨k1, k2⟩ := Bool.and_eq_true_iff.mp k
      cases e
      exact plain h1 h2 r1 r2 k1 k2 (.inr ⟨rfl, rfl⟩)
    case In =>
      dsimp only at hx
      split at hx
      · obtain ⟨k, e⟩ := askO_ok hx
        obtain ⟨k1, k2⟩ := Bool.and_eq_true_iff.mp k
        cases e
        exact lst (.inl rfl) k1 k2 (.inl ⟨rfl, rfl⟩)
      · obtain ⟨k, e⟩ := askO_ok hx
        obtain ⟨k1, k2⟩ := Bool.and_eq_true_iff.mp k
        cases e
        exact lst (.inr rfl) k1 k2 (.inl ⟨rfl, rfl⟩)
      · obtain ⟨w, hw, e⟩ := Option.map_eq_some_iff.mp hx
        exact dct hw (.inl ⟨rfl, e.symm⟩)
    case NotIn =>
      dsimp only at hx
      split at hx
      · obtain ⟨k, e⟩ := askO_ok hx
        obtain ⟨k1, k2⟩ := Bool.and_eq_true_iff.mp k
        cases e
        exact lst (.inl rfl) k1 k2 (.inr ⟨rfl, rfl⟩)
      · obtain ⟨k, e⟩ := askO_ok hx
        obtain ⟨k1, k2⟩ := Bool.and_eq_true_iff.mp k
        cases e
        exact lst (.inr rfl) k1 k2 (.inr ⟨rfl, rfl⟩)
      · obtain ⟨w, hw, e⟩ := Option.map_eq_some_iff.mp hx
        exact dct hw (.inr ⟨rfl, e.symm⟩)
end
end L4

set_option Elab.async false
set_option linter.all false
set_option maxRecDepth 100000
set_option maxHeartbeats 4000000
/-! Comparisons as expressions, as tests. -/
namespace L4
open PySem PySem.Spec PyProof.Rows L2
section
variable {X : Cx} {σ : L2.St} {H : Hp} {μ : Nat → Addr} {ρ : Env} {F F1 : Hp} {G G1 G' : Cs} {e a b c : Expr} {ma mb mc : Env → T Rv} {pins : List (Addr × Obj)} {s : Shared} {τ : Tb} {q : Bool} {n : Nat} {pos : Pos} {r : Except Err Rv} {R : VK}
/-- what isinstance and a comparison know of a value -/
theorem kit_see {d : D} {v : V} {u t : Value} (gd : Good τ q n X) (I : Inv X pins σ H s) (rp : Rep X.K μ F G H) (h : Sees X.K F H d v) (r : RelV v u) (ht : (∃ T, tagOf d = some T ∧ t = .type T) ∨ ∃ C, insOf d = some C ∧ τ.pg.cls C = true ∧ t = .ref (He.ga X.K C)) :
    ∃ P : Heap → Prop, PySem.W.KitX X.K u t P ∧ P s.heap ∧ u ≠ .builtin "__main__.__loader__#opaque" := by
  have base : ∀ {t' : Value}, TyX X.K H v t' → t' = t → ∃ P : Heap → Prop, PySem.W.KitX X.K u t P ∧ P s.heap ∧ u ≠ .builtin "__main__.__loader__#opaque" := fun ty e => e ▸ kit_of I r ty
  rcases ht with ⟨T, h1, rfl⟩ | ⟨C, h1, hc, rfl⟩
  · cases d with
    | non => cases h1; rw [show v = V.non from h] at base r; exact kit_of I r (.base .non)
    | bool b => cases h1; rw [show v = V.bl b from h] at base r; exact kit_of I r (.base (.bl b))
    | int b => cases h1; rw [show v = V.int b from h] at base r; exact kit_of I r (.base (.int b))
    | str b => cases h1; rw [show v = V.str b from h] at base r; exact kit_of I r (.base (.str b))
    | lst ds => cases h1; obtain ⟨a, vs, rfl, h2, _⟩ := h; exact kit_of I r (.base (.lst h2))
    | tup ds => cases h1; obtain ⟨a, vs, rfl, h2, _⟩ := h; exact kit_of I r (.base (.tup (rp.sub _ _ h2)))
    | dK ks ds =>
      cases h1
      obtain ⟨a, vs, rfl, h2, _⟩ := h
      cases (show u = Value.ref a from r)
      obtain ⟨_, _, vs, _, o, es, ep, h3, h4, _⟩ := rd_of I.hok h2
      exact ⟨_, PySem.W.kitx_dict, ⟨o, h3, h4.1⟩, fun z => nomatch z⟩
    | dT ks ds =>
      cases h1
      obtain ⟨a, vs, rfl, h2, _⟩ := h
      cases (show u = Value.ref a from r)
      obtain ⟨_, _, xs, _, o, es, ep, h3, h4, _⟩ := rd_of I.hok h2
      exact ⟨_, PySem.W.kitx_dict, ⟨o, h3, h4.1⟩, fun z => nomatch z⟩
    | _ => cases h1
  · cases d with
    | ins C' ns ds =>
      cases (Option.some.inj h1 : C' = C)
      obtain ⟨a, dx, vs, rfl, h2, _⟩ := h
      have ck := gd.kn.cls C hc
      exact kit_of I r (.base (.ins h2 ck.cl ck.ha ck.hn ck.tk ck.mo))
    | _ => cases h1
theorem ty_see {d : D} {v : V} {u t : Value} (gd : Good τ q n X) (I : Inv X pins σ H s) (rp : Rep X.K μ F G H) (h : Sees X.K F H d v) (r : RelV v u) (ht : (∃ T, tagOf d = some T ∧ t = .type T) ∨ ∃ C, insOf d = some C ∧ τ.pg.cls C = true ∧ t = .ref (He.ga X.K C)) :
    PySem.W.Looks (model X.prog X.w) s.heap (typeOf u) t := by
  obtain ⟨P, kx, hp, _⟩ := kit_see gd I rp h r ht
  exact kx.ty _ _ I.kIn hp
theorem tag_in {d : D} {t : String} (h : tagOf d = some t) : t ∈ tags := by
  cases d <;> first | (cases h; done) | skip
  all_goals (cases h; simp [tags])
theorem opv_ecmp {o : CmpOp} {x y : Rv} {v1 v2 : V} {u1 u2 : Value} (gd : Good τ q n X) (I : Inv X pins σ H s) (rp : Rep X.K μ F G H) (i1 : IsW X μ F G H x v1) (i2 : IsW X μ F G H y v2) (r1 : RelV v1 u1) (r2 : RelV v2 u2)
    (hx : eCmp (hd τ.pg q n) o x y G = some (r, G')) (f : Fn' X σ μ F G' r R) : wpAny (model X.prog X.w) X.A (compareOp o u1 u2) (EP X pins σ R) X.xe s := by
  unfold eCmp at hx
  split at hx
  · rename_i C ns ds d h1 h2
    obtain ⟨a, dx, fs, rfl, rfl, ha⟩ := ins_at (x := d) I (i1.sees rp h1) r1
    split at hx
    · rename_i nm ps hn
      have own : ∀ r1' G1, T.ask ((hd τ.pg q n).cls C && ((tagOf d).isSome || decide (insOf d = some C))) ((hd τ.pg q n).call (.m C nm) [x, y]) G = some (r1', G1) → ∀ (A' : Around) (R' : VK), (q = true → A'.guards = some []) → Room (2 * n + 1) A' → Env0 X.prog X.w X.K X.mg X.base A' X.stack s H → Fn' X σ μ F G1 r1' R' →
          (∃ ck : ClsK X.K C, Meth X.K (He.ga X.K C) nm (He.ma X.K (He.ga X.K C) nm) ∧ ∃ tb : Value, PySem.W.Looks (model X.prog X.w) s.heap (typeOf u2) tb ∧ PySem.W.notFirst X.K (He.ga X.K C) tb = true) ∧
          wpAny (model X.prog X.w) A' (PySem.call (.ref (He.ma X.K (He.ga X.K C) nm)) [.ref a, u2]) (EP X pins σ R') X.xe s := by
        intro r1' G1 hh A' R' g0 hr e0 f1
        obtain ⟨hc, hh⟩ := T.ask_ok hh
        obtain ⟨c1, c2⟩ := Bool.and_eq_true_iff.mp hc
        have c1 : τ.pg.cls C = true := c1
        obtain ⟨⟨fd, hfd⟩, run⟩ := run_fi (A' := A') rfl hh gd.lv g0 hr e0 I rp (.cons i1 (.cons i2 .nil)) (.cons r1 (.cons r2 .nil)) f1.cl
        refine ⟨⟨gd.kn.cls C c1, gd.kn.m C nm fd hfd, ?_⟩, run⟩
        rcases Bool.or_eq_true_iff.mp c2 with c3 | c3
        · obtain ⟨t, ht⟩ := Option.isSome_iff_exists.mp c3
          refine ⟨.type t, ty_see gd I rp (i2.sees rp h2) r2 (.inl ⟨t, ht, rfl⟩), ?_⟩
          unfold PySem.W.notFirst
          rw [(gd.kn.cls C c1).sub t (tag_in ht)]
          simp
        · refine ⟨.ref (He.ga X.K C), ty_see gd I rp (i2.sees rp h2) r2 (.inr ⟨C, of_decide_eq_true c3, c1, rfl⟩), ?_⟩
          unfold PySem.W.notFirst
          simp
      obtain ⟨mA, O, _⟩ := ins_get I.hok ha
      obtain ⟨od, J, _⟩ := O.look
      obtain ⟨m, hF⟩ := I.fr
      -- the method's answer, and what follows
      have ans : ∀ r1' G1, T.ask ((hd τ.pg q n).cls C && ((tagOf d).isSome || decide (insOf d = some C))) ((hd τ.pg q n).call (.m C nm) [x, y]) G = some (r1', G1) → ∀ (A' : Around), (q = true → A'.guards = some []) → Room (2 * n + 1) A' → Env0 X.prog X.w X.K X.mg X.base A' X.stack s H →
          (∀ er, r1' = .error er → r = .error er ∧ G' = G1) → (∀ w, r1' = .ok w → ∃ k : Bool, w = .d (.bool k) ∧ r = .ok (.d (.bool (k == ps))) ∧ G' = G1) →
          wpAny (model X.prog X.w) A' (PySem.call (.ref (He.ma X.K (He.ga X.K C) nm)) [.ref a, u2]) (fun v s' => ∃ k, v = Value.bool k ∧ EP X pins σ R (.bool (k == ps)) s') X.xe s := by
        intro r1' G1 hh A' g0 hr e0 he ho
        refine thn (own r1' G1 hh A' (fun v H' => ∃ k, v = .bl k ∧ R (.bl (k == ps)) H') g0 hr e0 ⟨fun er e => ?_, fun w e F' H' v e1 rp' i => ?_⟩).2 fun v s' hv => ?_
        · obtain ⟨e1, e2⟩ := he er e
          subst e2
          exact f.e er e1
        · obtain ⟨k, rfl, er, eg⟩ := ho w e
          subst eg
          have ev : v = .bl k := i
          exact ⟨k, ev, f.k _ er F' H' _ e1 rp' rfl⟩
        · obtain ⟨v', H', I', rv, k, rfl, hR⟩ := hv
          cases rv
          exact ⟨k, rfl, .bl _, H', I', rfl, hR⟩
      obtain ⟨r1', G1, hh, he, ho⟩ : ∃ r1' G1, T.ask ((hd τ.pg q n).cls C && ((tagOf d).isSome || decide (insOf d = some C))) ((hd τ.pg q n).call (.m C nm) [x, y]) G = some (r1', G1) ∧ (∀ er, r1' = .error er → r = .error er ∧ G' = G1) ∧ (∀ w, r1' = .ok w → ∃ k : Bool, w = .d (.bool k) ∧ r = .ok (.d (.bool (k == ps))) ∧ G' = G1) := by
        rcases T.bind_ok hx with ⟨er, hh, e⟩ | ⟨w, G1, hh, hk⟩
        · exact ⟨_, _, hh, fun er' e' => by cases e'; exact ⟨e, rfl⟩, fun w e' => by cases e'⟩
        · refine ⟨_, _, hh, fun er e' => (by cases e'), fun w' e' => ?_⟩
          cases e'
          split at hk
          · rename_i k
            cases hk
            exact ⟨k, rfl, rfl, rfl⟩
          · cases hk
      obtain ⟨⟨ck, me, tb, lt, nf⟩, _⟩ := own r1' G1 hh X.A (fun _ _ => True) gd.gd (gd.hr.mono (by omega)) I.env0 ⟨fun er e => by
        obtain ⟨e1, e2⟩ := he er e
        subst e2
        exact f.e er e1, fun _ _ _ _ _ _ _ _ => trivial⟩
      have straight : ∀ op : CmpOp, (∀ a b, compareOp op a b = richCompare op a b) → (cmpInfo op).2.1 = nm → ps = true → wpAny (model X.prog X.w) X.A (compareOp op (.ref a) u2) (EP X pins σ R) X.xe s := by
        intro op hop hnm hps
        subst hps
        rw [hop]
        refine PySem.W.cmp_K (op := op) (tb := tb) gd.hr.units0 hF I.ok.mod.kin J lt nf (by rw [hnm]; exact me.at_) me.fn (thn (ans r1' G1 hh X.A gd.gd (gd.hr.mono (by omega)) I.env0 he ho) fun v s' hv => ?_)
        obtain ⟨k, rfl, v', H', I', rv, q'⟩ := hv
        have e : (k == true) = k := by cases k <;> rfl
        rw [e] at rv
        exact cmpback (z := v') rv ⟨v', H', I', rv, q'⟩
      cases o <;> first | (cases hn; done) | skip
      case Eq => cases hn; exact straight .Eq (fun _ _ => rfl) rfl rfl
      case Lt => cases hn; exact straight .Lt (fun _ _ => rfl) rfl rfl
      case LtE => cases hn; exact straight .LtE (fun _ _ => rfl) rfl rfl
      case NotEq =>
        cases hn
        show wpAny _ _ (richCompare .NotEq (.ref a) u2) _ _ _
        have hr1 : Room (2 * n + 1) X.A.in1 := gd.hr.in1
        refine ne_K (by have := gd.hr.units; omega) I.kIn J lt nf ck.ne me.at_ me.fn ck.mo (thn (ans r1' G1 hh X.A.in1 gd.gd hr1 I.env0.in1 he ho) fun v s' hv => ?_)
        obtain ⟨k, rfl, q'⟩ := hv
        refine ⟨k, rfl, ?_⟩
        have e : (k == false) = !k := by cases k <;> rfl
        rw [e] at q'
        exact q'
    · split at hx
      · cases hx
        have e2 : v2 = .non := i2.sees rp h2
        subst e2
        exact op_isN1 pins s σ H _ _ _ _ R I r1 r2 ⟨rfl, f.dat rp rfl rfl⟩
      · cases hx
        have e2 : v2 = .non := i2.sees rp h2
        subst e2
        exact op_notN1 pins s σ H _ _ _ _ R I r1 r2 ⟨rfl, f.dat rp rfl rfl⟩
      · cases hx
  · rename_i d1 d2 hno h1 h2
    split at hx
    · rename_i c hc
      cases hx
      exact opv_cmp (by have := gd.hr.un; omega) I rp (i1.sees rp h1) (i2.sees rp h2) r1 r2 hc (f.dat rp rfl rfl)
    · cases hx
  · cases hx
theorem wx_cmp {o : CmpOp} (gd : Good τ q n X) (ha : Wx X a ma) (hb : Wx X b mb) (la : ∀ ρ, Lc (ma ρ)) (lb : ∀ ρ, Lc (mb ρ)) (hk : behindInMarks o b = false) :
    Wx X (.Compare a [o] [b] pos) (fun ρ => T.bind (T.bind (ma ρ) fin) fun x => T.bind (T.bind (mb ρ) fin) fun y => eCmp (hd τ.pg q n) o x y) := by
  refine ⟨fun pins s σ H R I ht => ?_⟩
  obtain ⟨μ, ρ, F, G, r, G', A, hx, fe, k⟩ := ht
  exact wpAny_Compare1 (wx_two ha hb la lb A I hx ⟨fe, fun w e F' H' v e1 rp i => k w e F' H' e1 rp v i⟩ fun pins s H1 F1 G1 x y v1 v2 u1 u2 I1 A1 i1 i2 r1 r2 hx f => opv_ecmp gd I1 A1.rep i1 i2 r1 r2 hx f) hk
theorem wt_cmp {o : CmpOp} {whole : Sem Value} (gd : Good τ q n X) (ha : Wx X a ma) (hb : Wx X b mb) (la : ∀ ρ, Lc (ma ρ)) (lb : ∀ ρ, Lc (mb ρ)) (hk : behindInMarks o b = false) :
    Wt X (.Compare a [o] [b] pos) (fun ρ => T.bind (T.bind (T.bind (ma ρ) fin) fun x => T.bind (T.bind (mb ρ) fin) fun y => eCmp (hd τ.pg q n) o x y) asB) whole := by
  refine ⟨fun pins s σ H R I ht => ?_⟩
  obtain ⟨μ, ρ, F, G, r, G', A, hx, fe, k⟩ := ht
  dsimp only at hx
  have go : ∀ (r1 : Except Err Rv) (G1 : Cs), (T.bind (T.bind (ma ρ) fin) fun x => T.bind (T.bind (mb ρ) fin) fun y => eCmp (hd τ.pg q n) o x y) G = some (r1, G1) → Fn' X σ μ F G1 r1 (fun v H' => ∃ t, v = .bl t ∧ R t H') → wpAny (model X.prog X.w) X.A (isTrue (.Compare a [o] [b] pos) X.env whole) (TP X pins σ R) X.xe s := by
    intro r1 G1 h1 f
    refine wpAny_isTrue_Compare1 (thn (wx_two ha hb la lb A I h1 f fun pins s H1 F1 G1 x y v1 v2 u1 u2 I1 A1 i1 i2 r1 r2 hx f => opv_ecmp gd I1 A1.rep i1 i2 r1 r2 hx f) fun v s1 h1 => thn h1 fun u s2 h2 => thn h2 fun w s3 ⟨v3, H3, I3, r3, t, ev, hR⟩ => ?_) hk
    subst ev
    cases r3
    exact wpAny_truthy_bool ⟨H3, I3, hR⟩
  rcases T.bind_ok hx with ⟨er, h1, e⟩ | ⟨w, G1, h1, h2⟩
  · subst e
    exact go _ _ h1 ⟨fun er' q => fe er' (by cases q; rfl), fun w q => by cases q⟩
  · refine go _ _ h1 ⟨FinE.ok, fun w' e F' H' v e1 rp i => ?_⟩
    cases e
    unfold asB at h2
    split at h2
    · cases h2
      exact ⟨_, i, k _ rfl F' H' e1 rp⟩
    · cases h2
/-- three in a chain, ints -/
def rPl (o : CmpOp) : R2 := fun x y H Q => ∃ i j c, x = .int i ∧ y = .int j ∧ cmpD o (.int i) (.int j) = some c ∧ Q (.bl c) H
theorem op_pl {o : CmpOp} : OpR X (compareOp o) (rPl o) := by
  intro pins s σ H x y v u Q I r1 r2 h
  obtain ⟨i, j, c, rfl, rfl, h, q⟩ := h
  cases o <;> first | (cases h; done) | skip
  case Lt => cases h; exact op_lt pins s σ H _ _ _ _ Q I r1 r2 ⟨i, j, rfl, rfl, q⟩
  case LtE => cases h; exact op_le pins s σ H _ _ _ _ Q I r1 r2 ⟨i, j, rfl, rfl, q⟩
  case Gt => cases h; exact op_gt pins s σ H _ _ _ _ Q I r1 r2 ⟨i, j, rfl, rfl, q⟩
  case GtE => cases h; exact op_ge pins s σ H _ _ _ _ Q I r1 r2 ⟨i, j, rfl, rfl, q⟩
  case Eq => cases h; exact op_eq pins s σ H _ _ _ _ Q I r1 r2 ⟨rfl, by simpa using q⟩
  case NotEq => cases h; exact op_ne pins s σ H _ _ _ _ Q I r1 r2 ⟨rfl, by simpa using q⟩
theorem asI_ok {w : Rv} {i : Int} {G G' : Cs} (h : asI w G = some (.ok i, G')) : w = .d (.int i) ∧ G' = G := by
  unfold asI at h
  split at h <;> cases h
  exact ⟨rfl, rfl⟩
theorem asI_no {w : Rv} {e : Err} {G G' : Cs} (h : asI w G = some (.error e, G')) : False := by
  unfold asI at h
  split at h <;> cases h
theorem tE_goI {β : Type} {m : Env → T Rv} {k : Int → T β} {r : Except Err β} {R : VK} (A : At X σ H μ ρ F G) (lm : Lc (m ρ)) (hx : T.bind (T.bind (m ρ) asI) k G = some (r, G')) (fe : FinE X σ μ F G' r)
    (next : ∀ i G1 F1 H1, k i G1 = some (r, G') → Ex F F1 → At X σ H1 μ ρ F1 G1 → FinE X σ μ F1 G' r → R (.int i) H1) : tE X m σ H R := by
  rw [T.bind_assoc] at hx
  refine tE_go A lm hx fe fun w G1 F1 H1 v _ h1 h2 h3 hl h4 h5 => ?_
  rcases T.bind_ok h1 with ⟨er, h6, _⟩ | ⟨i, G2, h6, h7⟩
  · exact (asI_no h6).elim
  · obtain ⟨rfl, rfl⟩ := asI_ok h6
    have ev : v = .int i := h5
    subst ev
    exact next i _ F1 H1 h7 h2 h3 h4
theorem liftO_ok {α β : Type} {o : Option α} {k : α → T β} {r : Except Err β} (h : T.bind (liftO o) k G = some (r, G')) : ∃ x, o = some x ∧ k x G = some (r, G') := by
  cases o with
  | none => cases h
  | some x => exact ⟨x, rfl, h⟩
theorem chain_of {o p : CmpOp} (ha : Wx X a ma) (hb : Wx X b mb) (hc : Wx X c mc) (la : ∀ ρ, Lc (ma ρ)) (lb : ∀ ρ, Lc (mb ρ)) (lc : ∀ ρ, Lc (mc ρ)) {R : VK}
    (A : At X σ H μ ρ F G) (hx : (T.bind (T.bind (ma ρ) asI) fun x => T.bind (T.bind (mb ρ) asI) fun y => T.bind (liftO (cmpD o (.int x) (.int y))) fun t =>
      cond t (T.bind (T.bind (mc ρ) asI) fun z => T.bind (liftO (cmpD p (.int y) (.int z))) fun t => T.pure (Rv.d (.bool t))) (T.pure (.d (.bool false)))) G = some (r, G'))
    (fe : FinE X σ μ F G' r) (k : ∀ w, r = .ok w → ∀ F' H', Ex F F' → Rep X.K μ F' G' H' → ∀ b, w = .d (.bool b) → R (.bl b) H') : tChain (rPl o) (rPl p) (tE X ma) (tE X mb) (tE X mc) σ H R := by
  refine tE_goI A (la ρ) hx fe fun x G1 F1 H1 h1 h2 h3 h4 => ?_
  refine tE_goI h3 (lb ρ) h1 h4 fun y G2 F2 H2 k1 k2 k3 k4 => ?_
  obtain ⟨t, ht, k1⟩ := liftO_ok k1
  refine ⟨x, y, t, rfl, rfl, ht, t, rfl, ?_⟩
  cases t with
  | false =>
    cases k1
    rw [if_neg (by simp)]
    exact k _ rfl F2 H2 (h2.trans k2) k3.rep _ rfl
  | true =>
    rw [if_pos rfl]
    refine tE_goI k3 (lc ρ) k1 k4 fun z G3 F3 H3 l1 l2 l3 l4 => ?_
    obtain ⟨t, ht, l1⟩ := liftO_ok l1
    cases l1
    exact ⟨y, z, t, rfl, rfl, ht, k _ rfl F3 H3 ((h2.trans k2).trans l2) l3.rep _ rfl⟩
theorem wx_cmp2 {o p : CmpOp} (ha : Wx X a ma) (hb : Wx X b mb) (hc : Wx X c mc) (la : ∀ ρ, Lc (ma ρ)) (lb : ∀ ρ, Lc (mb ρ)) (lc : ∀ ρ, Lc (mc ρ)) (hm : lastMarks [o, p] [b, c] = false) :
    Wx X (.Compare a [o, p] [b, c] pos) (fun ρ => T.bind (T.bind (ma ρ) asI) fun x => T.bind (T.bind (mb ρ) asI) fun y => T.bind (liftO (cmpD o (.int x) (.int y))) fun t =>
      cond t (T.bind (T.bind (mc ρ) asI) fun z => T.bind (liftO (cmpD p (.int y) (.int z))) fun t => T.pure (.d (.bool t))) (T.pure (.d (.bool false)))) := by
  refine ⟨fun pins s σ H R I ht => ?_⟩
  obtain ⟨μ, ρ, F, G, r, G', A, hx, fe, k⟩ := ht
  exact (pe_chain op_pl op_pl ha hb hc hm).run pins s σ H R I (chain_of ha hb hc la lb lc A hx fe fun w e F' H' e1 rp b eb => by
    subst eb
    exact k _ e F' H' e1 rp _ rfl)
theorem wt_cmp2 {o p : CmpOp} (ha : Wx X a ma) (hb : Wx X b mb) (hc : Wx X c mc) (la : ∀ ρ, Lc (ma ρ)) (lb : ∀ ρ, Lc (mb ρ)) (lc : ∀ ρ, Lc (mc ρ)) (hm : lastMarks [o, p] [b, c] = false) :
    Wt X (.Compare a [o, p] [b, c] pos) (fun ρ => T.bind (T.bind (T.bind (ma ρ) asI) fun x => T.bind (T.bind (mb ρ) asI) fun y => T.bind (liftO (cmpD o (.int x) (.int y))) fun t =>
      cond t (T.bind (T.bind (mc ρ) asI) fun z => T.bind (liftO (cmpD p (.int y) (.int z))) fun t => T.pure (.d (.bool t))) (T.pure (.d (.bool false)))) asB) (eval (.Compare a [o, p] [b, c] pos) X.env) := by
  refine ⟨fun pins s σ H R I ht => ?_⟩
  obtain ⟨μ, ρ, F, G, r, G', A, hx, fe, k⟩ := ht
  dsimp only at hx
  refine (pt_chain op_pl op_pl ha hb hc hm).run pins s σ H R I ?_
  rcases T.bind_ok hx with ⟨er, h1, e⟩ | ⟨w, G1, h1, h2⟩
  · subst e
    exact chain_of ha hb hc la lb lc A h1 (fun er' q => fe er' (by cases q; rfl)) fun w q => by cases q
  · refine chain_of ha hb hc la lb lc A h1 FinE.ok fun w' e F' H' e1 rp b eb => ?_
    cases e
    subst eb
    cases h2
    exact ⟨b, rfl, k _ rfl F' H' e1 rp⟩
end
end L4

set_option Elab.async false
set_option linter.all false
set_option maxRecDepth 100000
set_option maxHeartbeats 4000000
/-! Arguments; own defs, classes, methods, properties, attributes. -/
namespace L4
open PySem PySem.Spec PyProof.Rows L2
section
variable {X : Cx} {σ : L2.St} {H : Hp} {μ : Nat → Addr} {ρ : Env} {F F1 : Hp} {G G1 G' : Cs} {e a b c o : Expr} {es : List Expr} {ma mb mc : Env → T Rv} {mas : Env → T (List Rv)} {pins : List (Addr × Obj)} {s : Shared} {τ : Tb} {q : Bool} {n : Nat} {pos p apos : Pos} {r : Except Err Rv} {R : VK} {x f m : Str}
theorem fin_eq {m : T Rv} {w : Rv} (h : T.bind m fin G = some (.ok w, G1)) : ∀ u, w ≠ .n u := by
  rcases T.bind_ok h with ⟨_, _, e⟩ | ⟨x, G2, _, e⟩
  · cases e
  · cases e; exact frz_ne x
theorem paired_mono {μ : Nat → Addr} {F F' H H' : Hp} {G G' : Cs} (e : Ex F F') (l : G.length ≤ G'.length) : ∀ {ws : List Rv} {vs : List V}, NoN ws → Paired (IsW X μ F G H) ws vs → Paired (IsW X μ F' G' H') ws vs
  | _, _, _, .nil => .nil
  | w :: ws, _, n, .cons h t => .cons (h.mono (n w List.mem_cons_self) e l) (paired_mono e l (fun w' hw => n w' (List.mem_cons_of_mem _ hw)) t)
/-- arguments -/
abbrev WxA (X : Cx) (es : List Expr) (m : Env → T (List Rv)) : Prop := PA X es (tA X m)
theorem wxa_nil : WxA X [] (fun _ => T.pure []) := by
  refine ⟨fun pos pins s σ H R I ht => ?_⟩
  obtain ⟨μ, ρ, F, G, r, G', A, hx, fe, k⟩ := ht
  cases hx
  exact pa_nil.run pos pins s σ H R I (k _ rfl F H (Ex.refl F) A.rep [] (fun w h => by cases h) .nil)
theorem wxa_cons (ha : Wx X e ma) (hr : WxA X es mas) (la : ∀ ρ, Lc (ma ρ)) (lr : ∀ ρ, Lc (mas ρ)) (hs : starEach (e :: es) X.env = (false, eval e X.env) :: starEach es X.env) :
    WxA X (e :: es) (fun ρ => T.bind (T.bind (ma ρ) fin) fun w => T.bind (mas ρ) fun ws => T.pure (w :: ws)) := by
  refine ⟨fun pos pins s σ H R I ht => ?_⟩
  obtain ⟨μ, ρ, F, G, r, G', A, hx, fe, k⟩ := ht
  refine (pa_cons (ha.frz la) hr hs).run pos pins s σ H R I (tE_go (m := fun ρ => T.bind (ma ρ) fin) A (.bind (la ρ) Lc.fin) hx fe fun w G1 F1 H1 v h0 h1 h2 h3 hl h4 h5 => ?_)
  refine tA_go h3 (lr ρ) h1 h4 fun ws G2 F2 H2 vs k0 k1 k2 k3 kl k4 kn k5 => ?_
  cases k1
  have n0 := fin_eq h0
  refine k _ rfl F2 H2 (h2.trans k2) k3.rep (v :: vs) (fun w' hw => ?_) (.cons (h5.mono n0 k2 (Nat.le_of_eq kl.symm)) k5)
  rcases List.mem_cons.mp hw with rfl | hw
  · exact n0
  · exact kn w' hw
/-- arguments, as a fact -/
theorem WxA.go {β : Type} {k : List Rv → T β} {r : Except Err β} (h : WxA X es mas) (pos : Pos) (I : Inv X pins σ H s) (A : At X σ H μ ρ F G) (lm : Lc (mas ρ)) (hx : T.bind (mas ρ) k G = some (r, G')) (fe : FinE X σ μ F G' r) :
    wpAny (model X.prog X.w) X.A (spliced (backTo pos (starEach es X.env))) (fun us s1 => ∃ vs H1 ws G1 F1, Inv X pins σ H1 s1 ∧ Vals vs us ∧ k ws G1 = some (r, G') ∧ Ex F F1 ∧ At X σ H1 μ ρ F1 G1 ∧ G1.length = G.length ∧ FinE X σ μ F1 G' r ∧ NoN ws ∧ Paired (IsW X μ F1 G1 H1) ws vs) X.xe s := by
  refine thn (h.run pos pins s σ H (fun vs H1 => ∃ ws G1 F1, k ws G1 = some (r, G') ∧ Ex F F1 ∧ At X σ H1 μ ρ F1 G1 ∧ G1.length = G.length ∧ FinE X σ μ F1 G' r ∧ NoN ws ∧ Paired (IsW X μ F1 G1 H1) ws vs) I (tA_go A lm hx fe fun ws G1 F1 H1 vs _ h1 h2 h3 hl h4 h5 h6 => ⟨ws, G1, F1, h1, h2, h3, hl, h4, h5, h6⟩)) fun us s1 ⟨vs, H1, I1, rv, ws, G1, F1, z⟩ => ?_
  exact ⟨vs, H1, ws, G1, F1, I1, rv, z⟩
/-- the form of a call's arguments -/
def Plain (X : Cx) (pos : Pos) : List Expr → Prop
  | [] => True
  | e :: es => starEach (e :: es) X.env = (false, eval e X.env) :: starEach es X.env ∧ (backTo pos (starEach es X.env)).any (·.1) = false
theorem evalArgs_plain0 {f : Value} {prog : Program} {w : World} {A : Around} {E : Value → Shared → Prop} {s : Shared} {Q : Args → Shared → Prop} (h : wpAny (model prog w) A (spliced []) (fun vs s' => Q ⟨vs, []⟩ s') E s) : wpAny (model prog w) A (evalArgs f true [] []) Q E s := by
  unfold evalArgs
  show wpAny _ A (spliced [] >>= _) Q E s
  refine wpAny_bind (wpAny_mono h (fun vs s' h' => ?_) fun _ _ x => x)
  refine wpAny_holding ?_
  exact wpAny_bind (wpAny_pure (wpAny_bind (wpAny_pure (wpAny_pure h'))))
theorem call_known {u : Value} {us0 : List Value} {Q : Value → Shared → Prop} (I : Inv X pins σ H s) (hk : PySem.W.keepIn X.K u = true) (hp : Plain X pos es)
    (h : wpAny (model X.prog X.w) X.A (spliced (backTo pos (starEach es X.env))) (fun us s1 => X.K.In s1.heap ∧ wpAny (model X.prog X.w) X.A (PySem.call u (us0 ++ us)) Q X.xe s1) X.xe s) :
    wpAny (model X.prog X.w) X.A (callWith pos u us0 (backTo pos (starEach es X.env)) (backToKw pos (keywordEach [] X.env))) Q X.xe s := by
  cases es with
  | nil => exact PySem.W.callWith_of rfl (PySem.W.keeps_K hk) (evalArgs_plain0 h)
  | cons e es => exact PySem.W.callWith_K (first := us0) (h₀ := X.base) I.ok.mod.kin hk h hp.1 hp.2
/-- x(..), an own def -/
theorem wx_fn (gd : Good τ q n X) (ha : WxA X es mas) (la : ∀ ρ, Lc (mas ρ)) (hg : Gl X x) (hp : Plain X pos es) (hdb : (x == ("__debug__" : Str)) = false) (hf : (τ.pg.fn (.g x)).isSome = true) : Wx X (.Call (.Name x p) es [] pos) (fun ρ => T.bind (mas ρ) fun ws => (hd τ.pg q n).call (.g x) ws) := by
  refine ⟨fun pins s σ H R I ht => ?_⟩
  obtain ⟨μ, ρ, F, G, r, G', A, hx, fe, k⟩ := ht
  obtain ⟨fd, hfd⟩ := Option.isSome_iff_exists.mp hf
  obtain ⟨hm, hk⟩ := gd.kn.g x fd hfd
  refine wpAny_Call_Name_kw (ld_glob I hg hm ?_ hdb)
  refine call_known (us0 := []) I hk hp (thn (ha.go pos I A (la ρ) hx fe) fun us s1 ⟨vs, H1, ws, G1, F1, I1, rv, h1, h2, h3, hl, h4, h5, h6⟩ => ⟨I1.kIn, ?_⟩)
  exact (run_fi (A' := X.A) rfl h1 gd.lv gd.gd (gd.hr.mono (by omega)) I1.env0 I1 h3.rep h6 rv ⟨h4, fun w e F' H' v e1 rp i => k w e F' H' (h2.trans e1) rp v (by
    cases w with
    | ex er => exact (show False from i).elim
    | d u => exact i
    | n u => exact i
    | r l => exact i)⟩).2
theorem toW {μ : Nat → Addr} {F H : Hp} {G : Cs} {w : Rv} {v : V} (i : IsV X.K μ F G H w v) : IsW X μ F G H w v := by
  cases w with
  | ex er => exact (show False from i).elim
  | d u => exact i
  | n u => exact i
  | r l => exact i
theorem Rep.take {K : PySem.W.Frag} {μ' : Nat → Addr} {k : Nat} (r : Rep K μ' F G1 H) (h : ∀ l, l < k → μ' l = μ l) : Rep K μ F (G1.take k) H := by
  refine ⟨r.sub, fun l d e => ?_, fun l l' h1 h2 e => ?_⟩
  · rw [List.getElem?_take] at e
    split at e
    · rename_i hl
      rw [← h l hl]
      exact r.at_ l d e
    · cases e
  · rw [List.length_take] at h1 h2
    exact r.inj l l' (by omega) (by omega) (by rw [h l (by omega), h l' (by omega)]; exact e)
/-- one cell more -/
theorem Rep.push {K : PySem.W.Frag} {a : Addr} {u : D} (r : Rep K μ F G H) (h1 : F a = none) (h2 : ∀ l, l < G.length → μ l ≠ a) (ob : Ob K F H a u) : Rep K (fun l => if l = G.length then a else μ l) F (G ++ [u]) H := by
  refine ⟨r.sub, fun l d e => ?_, fun l l' k1 k2 e => ?_⟩
  · by_cases hl : l = G.length
    · subst hl
      rw [List.getElem?_append_right (Nat.le_refl _)] at e
      simp at e
      subst e
      simp only [if_true]
      exact ⟨h1, ob⟩
    · have hl2 : l < G.length := by
        have := (List.getElem?_eq_some_iff.mp e).1
        rw [List.length_append, List.length_singleton] at this
        omega
      rw [List.getElem?_append_left hl2] at e
      simp only [if_neg hl]
      exact r.at_ l d e
  · rw [List.length_append, List.length_singleton] at k1 k2
    by_cases hl : l = G.length
    · by_cases hl' : l' = G.length
      · omega
      · rw [if_pos hl, if_neg hl'] at e
        exact absurd e.symm (h2 l' (by omega))
    · by_cases hl' : l' = G.length
      · rw [if_neg hl, if_pos hl'] at e
        exact absurd e (h2 l (by omega))
      · rw [if_neg hl, if_neg hl'] at e
        exact r.inj l l' (by omega) (by omega) e
theorem isA_push {K : PySem.W.Frag} {a : Addr} {u : D} {w : Rv} {v : V} (h : IsA K μ F G w v) : IsA K (fun l => if l = G.length then a else μ l) F (G ++ [u]) w v := by
  cases w with
  | d u => exact h
  | r l =>
    obtain ⟨h1, h2⟩ := h
    refine ⟨by rw [List.length_append, List.length_singleton]; omega, ?_⟩
    show v = .ref (if l = G.length then a else μ l)
    rw [if_neg (by omega)]
    exact h2
  | n u => exact h
  | ex er => exact h
theorem isA_pushL {K : PySem.W.Frag} {a : Addr} {u : D} : ∀ {ws : List Rv} {vs : List V}, Paired (IsA K μ F G) ws vs → Paired (IsA K (fun l => if l = G.length then a else μ l) F (G ++ [u])) ws vs
  | _, _, .nil => .nil
  | _, _, .cons h t => .cons (isA_push h) (isA_pushL t)
theorem make_guards {A : Around} {C : Addr} {us : List Value} {kw : List (Str × Value)} : (A.under (.builtin "type.__call__" ⟨.ref C :: us, kw⟩)).guards = A.guards := by
  first | rfl | simp [Around.under, Code.weight, Code.isCreation, Code.isGuard, Code.isCaller, Code.frames, Code.isFrame, guardIds]
/-- the class called upon values -/
theorem run_mk {C : Str} {ws : List Rv} {vs : List V} {us : List Value} (gd : Good τ q n X) (hx : (hd τ.pg q n).call (.k C) ws G = some (r, G')) (I : Inv X pins σ H s) (rp : Rep X.K μ F G H) (ha : Paired (IsW X μ F G H) ws vs) (hv : Vals vs us) (fin : Cl0 X σ μ F G' r R) :
    wpAny (model X.prog X.w) X.A (PySem.call (.ref (He.ga X.K C)) us) (EP X pins σ R) X.xe s := by
  have lv := gd.lv
  have hr := gd.hr
  cases n with
  | zero => cases hx
  | succ n =>
    have hx : call τ.pg q (n + 1) (.k C) ws G = some (r, G') := hx
    unfold call at hx
    cases hf : τ.pg.fn (.k C) with
    | none => rw [hf] at hx; cases hx
    | some fd =>
      rw [hf] at hx
      dsimp only at hx
      cases hw : argsOf { fd with np := fd.np - 1 } ws with
      | none => rw [hw] at hx; cases hx
      | some ws' =>
        rw [hw] at hx
        have hx : runK q (hd τ.pg q n) fd C ws' G = some (r, G') := hx
        obtain ⟨hm, hk, M, hnp1⟩ := gd.kn.k C fd hf
        obtain ⟨fdt, ps, dvs, ds, hps, Fn, b1, b2, hds, hdl⟩ := lv (.k C) fd hf
        obtain ⟨W, tk, hW⟩ := takes_of_fin fin.e
        obtain ⟨ok, hw⟩ := argsOf_ok hw
        have hA := IsA.okL ha ok
        -- either way the values of the parameters
        have go : ∀ (dvs : List V) (ds : List Value), Binds X.K fdt ps ds → Vals dvs ds →  Paired (IsA X.K μ F G) ws' (vs ++ dvs) → (Rv.r G.length :: ws').length = fd.np → wpAny (model X.prog X.w) X.A (PySem.call (.ref (He.ga X.K C)) us) (EP X pins σ R) X.xe s := by
          intro dvs ds hb hdv hA' hnp
          have n1 : H (s.heap.objs.size + 1) = none := I.hok.fresh (Nat.le_succ _)
          have n0 : H s.heap.objs.size = none := I.hok.fresh (Nat.le_refl _)
          have ne : s.heap.objs.size ≠ s.heap.objs.size + 1 := Nat.ne_of_lt (Nat.lt_succ_self _)
          have I2 := Inv.made (C := He.ga X.K C) I
          have rp0 : Rep X.K μ F G (upd (upd H s.heap.objs.size (.own (s.heap.objs.size + 1))) (s.heap.objs.size + 1) (.ins (He.ga X.K C) s.heap.objs.size [])) := (rp.new n0).new (by rw [upd_ne (Ne.symm ne)]; exact n1)
          have rp2 := rp0.push (a := s.heap.objs.size + 1) (u := .ins C [] []) (rp.sub.none n1) (rp.off n1) ⟨s.heap.objs.size, [], upd_same, rfl, IsL.nil⟩
          have r2 : Vals (V.ref (s.heap.objs.size + 1) :: (vs ++ dvs)) (Value.ref (s.heap.objs.size + 1) :: (us ++ ds)) := .cons rfl (hv.append hdv)
          -- what __init__ does
          have hrun : ∃ r1 G1, runF q (hd τ.pg q n) fd (.r G.length :: ws') (G ++ [.ins C [] []]) = some (r1, G1) ∧ (∀ er, r1 = .error er → r = .error er ∧ G' = G1.take G.length) ∧
              ∀ w, r1 = .ok w → w = .d .non ∧ ∃ u, G1[G.length]? = some u ∧ r = .ok (.n u) ∧ G' = G1.take G.length := by
            unfold runK at hx
            split at hx
            · rename_i G1 e1
              split at hx
              · rename_i u hu
                cases hx
                exact ⟨_, G1, e1, fun er e => (by cases e), fun w e => by cases e; exact ⟨rfl, u, hu, rfl, rfl⟩⟩
              · cases hx
            · rename_i er G1 e1
              cases hx
              exact ⟨_, G1, e1, fun er' e => by cases e; exact ⟨rfl, rfl⟩, fun w e => by cases e⟩
            · cases hx
          obtain ⟨r1, G1, hr1, he, ho⟩ := hrun
          have ln := Lc.runF (lc_call τ.pg q n) fd _ _ _ _ hr1
          rw [List.length_append, List.length_singleton] at ln
          have back : ∀ l, l < G.length → (fun l => if l = G.length then s.heap.objs.size + 1 else μ l) l = μ l := fun l hl => by
            show (if l = G.length then _ else _) = _
            rw [if_neg (by omega)]
          have hsp : spR τ.pg q n fd X.K (.ref (s.heap.objs.size + 1) :: (vs ++ dvs)) (upd (upd H s.heap.objs.size (.own (s.heap.objs.size + 1))) (s.heap.objs.size + 1) (.ins (He.ga X.K C) s.heap.objs.size [])) (fun v H2 => v = .non ∧ R (.ref (s.heap.objs.size + 1)) H2) (fun c d H' => W c d σ H') := by
            refine ⟨_, F, G ++ [.ins C [] []], .r G.length :: ws', r1, G1, rp2, .cons ⟨by rw [List.length_append, List.length_singleton]; omega, ?_⟩ (isA_pushL hA'), hnp, hr1, fun w e F' H' v e1 rp' i => ?_, fun er e F' H' cls d e1 rp' ie => ?_⟩
            · show V.ref _ = .ref (if G.length = G.length then _ else _)
              rw [if_pos rfl]
            · obtain ⟨rfl, u, hu, er, eg⟩ := ho w e
              have ev : v = .non := i
              refine ⟨ev, fin.k _ er F' H' _ e1 (by rw [eg]; exact rp'.take back) ?_⟩
              obtain ⟨o1, o2⟩ := rp'.at_ G.length u hu
              rw [if_pos rfl] at o1 o2
              refine ⟨_, rfl, o1, fun l hl z => ?_, o2⟩
              rw [eg, List.length_take] at hl
              have := rp'.inj l G.length (by omega) (by omega) (by
                rw [if_neg (by omega), if_pos rfl]
                exact z)
              omega
            · obtain ⟨er', eg⟩ := he er e
              exact hW er er' F' H' cls d e1 (by rw [eg]; exact rp'.take back) ie
          have hl : (Value.ref (s.heap.objs.size + 1) :: us ++ ds).length = ps.length := by
            have e := r2.length
            rw [Fn.len _ _ _ _ hsp] at e
            exact e.symm
          refine wpAny_call (make_map (f := He.ma X.K (He.ga X.K C) "__init__") I.kIn M.makes M.init (beq_iff_eq.mp M.fn) (codeAny_mono (Fn.run _ X.stack _ _ ⟨Value.ref (s.heap.objs.size + 1) :: us, []⟩ (Value.ref (s.heap.objs.size + 1) :: (us ++ ds)) _ _ _ (fun hq => ?_) (hr.make (He.ga X.K C) us [])
            (I2.env0.make (He.ga X.K C) us []) (hb _ (Value.ref (s.heap.objs.size + 1) :: us) I2.kIn hl) r2 hsp) fun r s' hq' => ?_))
          · rw [make_guards]; exact gd.gd hq
          cases r with
          | error e => exact tk _ _ (XE.of_call I2 (fun _ _ _ h => h) hq')
          | ok fl =>
            cases fl with
            | ret u =>
              obtain ⟨v, H', I3, rv, ev, q3⟩ := I2.after hq'
              subst ev
              exact ⟨rv, ⟨V.ref (s.heap.objs.size + 1), H', I3, rfl, q3⟩⟩
            | next => exact False.elim hq'
            | brk => exact False.elim hq'
            | cont => exact False.elim hq'
        rcases hw with ⟨hl, rfl⟩ | ⟨hl, rfl⟩
        · refine go [] [] b1 .nil (by rw [List.append_nil]; exact hA) ?_
          rw [List.length_cons]
          have hl2 : _ = fd.np - 1 := hl
          clear hl
          omega
        · refine go dvs ds b2 hds (paired_append hA (isA_dfl (hdl F))) ?_
          rw [List.length_cons, List.length_append, List.length_map]
          show ws.length + fd.dfl.length + 1 = fd.np
          have hl2 : ws.length + fd.dfl.length = fd.np - 1 := hl
          clear hl
          omega
/-- C(..), an own class -/
theorem wx_mk (gd : Good τ q n X) (ha : WxA X es mas) (la : ∀ ρ, Lc (mas ρ)) (hg : Gl X x) (hp : Plain X pos es) (hdb : (x == ("__debug__" : Str)) = false) (hf : (τ.pg.fn (.k x)).isSome = true) : Wx X (.Call (.Name x p) es [] pos) (fun ρ => T.bind (mas ρ) fun ws => (hd τ.pg q n).call (.k x) ws) := by
  refine ⟨fun pins s σ H R I ht => ?_⟩
  obtain ⟨μ, ρ, F, G, r, G', A, hx, fe, k⟩ := ht
  obtain ⟨fd, hfd⟩ := Option.isSome_iff_exists.mp hf
  obtain ⟨hm, hk, M, _⟩ := gd.kn.k x fd hfd
  refine wpAny_Call_Name_kw (ld_glob I hg hm ?_ hdb)
  refine call_known (us0 := []) I hk hp (thn (ha.go pos I A (la ρ) hx fe) fun us s1 ⟨vs, H1, ws, G1, F1, I1, rv, h1, h2, h3, hl, h4, h5, h6⟩ => ⟨I1.kIn, ?_⟩)
  exact run_mk gd h1 I1 h3.rep h6 rv ⟨h4, fun w e F' H' v e1 rp i => k w e F' H' (h2.trans e1) rp v (toW i)⟩
/-- a field -/
theorem fld_val {K : PySem.W.Frag} {f : Str} : ∀ {ns : List Str} {ds : List D} {vs : List V}, IsL K F ds vs → OptIs K F (fldL f ns ds) ((ns.zip vs).lookup f)
  | [], _, _, _ => by simp [fldL, OptIs]
  | _ :: _, [], _, h => by rw [show _ = [] from h]; simp [fldL, OptIs]
  | k' :: ks, d :: ds, _, h => by
    obtain ⟨v, r, rfl, h1, h2⟩ := h
    rw [List.zip_cons_cons]
    unfold fldL
    by_cases e : k' = f
    · subst e
      rw [if_pos rfl]
      simp only [List.lookup, beq_self_eq_true]
      exact h1
    · rw [if_neg e]
      have e2 : (f == k') = false := beq_eq_false_iff_ne.mpr (Ne.symm e)
      simp only [List.lookup, e2]
      exact fld_val h2
end
end L4

set_option Elab.async false
set_option linter.all false
set_option maxRecDepth 100000
set_option maxHeartbeats 4000000
/-! Attributes, properties, methods. -/
namespace L4
open PySem PySem.Spec PyProof.Rows L2
section
variable {X : Cx} {σ : L2.St} {H : Hp} {μ : Nat → Addr} {ρ : Env} {F F1 : Hp} {G G1 G' : Cs} {e a b c o : Expr} {es : List Expr} {ma mb mc : Env → T Rv} {mas : Env → T (List Rv)} {pins : List (Addr × Obj)} {s : Shared} {τ : Tb} {q : Bool} {n : Nat} {pos p apos : Pos} {r : Except Err Rv} {R : VK} {x f m : Str}
theorem fldL_mem {f : Str} : ∀ {ns : List Str} {ds : List D} {d : D}, fldL f ns ds = some d → f ∈ ns
  | [], _, _, h => by cases h
  | _ :: _, [], _, h => by cases h
  | k :: ks, d' :: ds, d, h => by
    unfold fldL at h
    by_cases e : k = f
    · rw [e]; exact List.mem_cons_self
    · rw [if_neg e] at h; exact List.mem_cons_of_mem _ (fldL_mem h)
theorem optIs_some {K : PySem.W.Frag} {d : D} {o : Option V} (h : OptIs K F (some d) o) : ∃ v, o = some v ∧ Is K F d v := by
  cases o with
  | none => exact h.elim
  | some v => exact ⟨v, rfl, h⟩
/-- an attribute of the exception that is handled -/
theorem exat_ok {er : Err} {v : V} {u : Value} {d : D} (I : Inv X pins σ H s) (e : Ex F H) (h : IsX X F er v) (r : RelV v u) (hf : fldL f er.ns er.vs = some d) (k : ∀ v, Is X.K F d v → R v H) : wpAny (model X.prog X.w) X.A (getAttr u f true) (EP X pins σ R) X.xe s := by
  obtain ⟨Y, a, oe, cls, dd, pn, hX, rfl, ⟨h1, ⟨T, hno⟩, h2⟩, hz, vs0, hd⟩ := h
  cases (show u = Value.ref a from r)
  rcases h2 with ⟨h2, _⟩ | ⟨ed, vs, rfl, h3, h4, h5⟩
  · rw [h2] at hf; cases hf
  · obtain ⟨v, hv, hi⟩ := optIs_some (hf ▸ fld_val (f := f) (ns := er.ns) h5)
    have ha : s.heap.get? a = some oe := by
      have hp : (a, oe) ∈ X.pn ++ pins := List.mem_append_left _ (by rw [hX]; exact List.mem_cons_self)
      exact (I.pin (a, oe) hp).1
    have hx : ObjOk X.prog X.w H s.heap ed (.xd (er.ns.zip vs)) := I.hok ed _ (e _ _ h3)
    obtain ⟨mA, hns, hr⟩ := hx
    obtain ⟨od, ho, hl⟩ := lookIn_ns hns
    obtain ⟨u, hu, ru⟩ := RelO.some_of (v := v) (o := mA f) (by rw [← hv]; exact hr f)
    subst h1
    have J : PySem.W.InstAt s.heap a oe (He.ga X.K er.cls) (some od) := ⟨ha, hz.1, by unfold PySem.W.notCls; rw [hd] <;> rfl, by rw [hz.2]; exact ho⟩
    exact HandSPX.exc_get I.kIn J T.ga T.gg T.exC (PySem.W.findObj_own T.hdC (hno f (fldL_mem hf)) rfl (by rw [hl, hu])) (handed_of ru) ⟨v, H, I.tok _, ru, k v hi⟩
/-- o.f, a field; an exception's attribute -/
theorem wx_att (gd : Good τ q n X) (ho : Wx X o ma) (la : ∀ ρ, Lc (ma ρ)) (hf : f ∈ τ.fd) (hab : attributeBase o f X.env (eval o X.env) = eval o X.env) :
    Wx X (.Attribute o f pos) (fun ρ => T.bind (T.bind (ma ρ) fin) fun w => eAtt (hd τ.pg q n) w f) := by
  refine ⟨fun pins s σ H R I ht => ?_⟩
  obtain ⟨μ, ρ, F, G, r, G', A, hx, fe, k⟩ := ht
  refine attr_of hab (thn (ho.goF la I A hx fe) fun u1 s1 ⟨v1, H1, I1, r1, x, G1, F1, n1, h1, h2, h3, l1, h4, h5⟩ => ?_)
  unfold eAtt at h1
  split at h1
  · rename_i er
    split at h1
    · rename_i d hd
      cases h1
      exact exat_ok I1 h3.rep.sub h5 r1 hd fun v i => k _ rfl F1 H1 h2 h3.rep v i
    · cases h1
  · split at h1
    · rename_i C ns ds hs
      split at h1
      · rename_i d hd
        obtain ⟨hc, e1⟩ := askO_ok h1
        cases e1
        obtain ⟨a, dx, vs, rfl, ha, _, hi⟩ := h5.sees h3.rep hs
        cases (show u1 = Value.ref a from r1)
        obtain ⟨v, hv, hi2⟩ := optIs_some (hd ▸ fld_val (f := f) (ns := ns) hi)
        exact getattr_ok I1 ha (gd.kn.cls C hc).cl (gd.kn.fd C hc f hf) hv fun u' s2 I2 ru => ⟨v, H1, I2, ru, k _ rfl F1 H1 h2 h3.rep v hi2⟩
      · cases h1
    · cases h1
/-- the def at fi, and that its promise is asked for -/
def Prep (X : Cx) (τ : Tb) (q : Bool) (n : Nat) (μ : Nat → Addr) (F H : Hp) (G' : Cs) (r : Except Err Rv) (fi : Fi) (vs : List V) : Prop :=
    ∃ (fd : Fd) (f : FuncData) (ps : List Str) (dvs : List V) (ds : List Value) (k : Nat), τ.pg.fn fi = some fd ∧ FnQ X.prog X.w X.K X.mg X.base q (2 * n + 1) (adr X.K fi) f ps (spR τ.pg q k fd X.K) ∧ Binds X.K f ps ds ∧ Vals dvs ds ∧
      ∀ (R : VK) (Z : XK), (∀ w, r = .ok w → ∀ F' H' v, Ex F F' → Rep X.K μ F' G' H' → IsV X.K μ F' G' H' w v → R v H') → (∀ er, r = .error er → ∀ F' H' cls d, Ex F F' → Rep X.K μ F' G' H' → IsE X.K F' er cls d → Z cls d H') → spR τ.pg q k fd X.K (vs ++ dvs) H R Z
theorem prep_fi {fi : Fi} {ws : List Rv} {vs : List V} (hp : plainFi fi = true) (hx : (hd τ.pg q n).call fi ws G = some (r, G')) (lv : Lv τ.pg q X.prog X.w X.K X.mg X.base n) (rp : Rep X.K μ F G H) (ha : Paired (IsW X μ F G H) ws vs) : Prep X τ q n μ F H G' r fi vs := by
  cases n with
  | zero => cases hx
  | succ n =>
    have hx : call τ.pg q (n + 1) fi ws G = some (r, G') := hx
    unfold call at hx
    cases hf : τ.pg.fn fi with
    | none => rw [hf] at hx; cases hx
    | some fd =>
      rw [hf] at hx
      obtain ⟨f, ps, dvs, ds, hps, Fn, b1, b2, hds, hdl⟩ := lv fi fd hf
      have go : ∀ ws', argsOf fd ws = some ws' → runF q (hd τ.pg q n) fd ws' G = some (r, G') → Prep X τ q (n + 1) μ F H G' r fi vs := fun ws' h1 h2 => by
        obtain ⟨ok, hw⟩ := argsOf_ok h1
        have hA := IsA.okL ha ok
        rcases hw with ⟨hl, rfl⟩ | ⟨hl, rfl⟩
        · exact ⟨fd, f, ps, [], [], n, hf, Fn, b1, .nil, fun R Z h3 h4 => ⟨μ, F, G, _, r, G', rp, by rw [List.append_nil]; exact hA, hl, h2, h3, h4⟩⟩
        · exact ⟨fd, f, ps, dvs, ds, n, hf, Fn, b2, hds, fun R Z h3 h4 => ⟨μ, F, G, _, r, G', rp, paired_append hA (isA_dfl (hdl F)), by rw [List.length_append, List.length_map]; exact hl, h2, h3, h4⟩⟩
      cases fi with
      | k C => cases hp
      | c C x => cases hp
      | g x =>
        dsimp only at hx
        cases h1 : argsOf fd ws with
        | none => rw [h1] at hx; cases hx
        | some ws' => rw [h1] at hx; exact go ws' h1 hx
      | m C x =>
        dsimp only at hx
        cases h1 : argsOf fd ws with
        | none => rw [h1] at hx; cases hx
        | some ws' => rw [h1] at hx; exact go ws' h1 hx
      | p C x =>
        dsimp only at hx
        cases h1 : argsOf fd ws with
        | none => rw [h1] at hx; cases hx
        | some ws' => rw [h1] at hx; exact go ws' h1 hx
/-- o.f, a property -/
theorem wx_prp (gd : Good τ q n X) (ho : Wx X o ma) (la : ∀ ρ, Lc (ma ρ)) (hab : attributeBase o f X.env (eval o X.env) = eval o X.env) :
    Wx X (.Attribute o f pos) (fun ρ => T.bind (T.bind (ma ρ) fin) fun w => ePrp (hd τ.pg q n) w f) := by
  refine ⟨fun pins s σ H R I ht => ?_⟩
  obtain ⟨μ, ρ, F, G, r, G', A, hx, fe, k⟩ := ht
  refine attr_of hab (thn (ho.goF la I A hx fe) fun u1 s1 ⟨v1, H1, I1, r1, x, G1, F1, n1, h1, h2, h3, l1, h4, h5⟩ => ?_)
  unfold ePrp at h1
  split at h1
  · rename_i C ns ds hs
    split at h1
    · rename_i w G2 hcall
      cases h1
      obtain ⟨hc, hcall⟩ := T.ask_ok hcall
      have hc : τ.pg.cls C = true := hc
      obtain ⟨a, dx, vs, rfl, ea, _, hi⟩ := h5.sees h3.rep hs
      cases (show u1 = Value.ref a from r1)
      have c := (gd.kn.cls C hc).cl
      obtain ⟨mA, O, _, _, _, _⟩ := ins_get I1.hok ea
      obtain ⟨od, J, _⟩ := O.look
      have I2 := I1.tok (s1.toks + 1)
      obtain ⟨fd, fdt, ps, dvs, ds, kk, hfd, Fn, hb, hdv, hsp⟩ := prep_fi (vs := [.ref a]) rfl hcall gd.lv h3.rep (.cons h5 .nil)
      have hp := gd.kn.p C f fd hfd
      obtain ⟨rest, hrec⟩ := hp.rec_
      have hc : (PySem.W.clsIn X.K (He.ga X.K C)).isSome = true := by
        obtain ⟨cd, hc, _⟩ := PySem.W.any_some c.hd
        rw [hc]
        rfl
      have sp := hsp R (fun _ _ _ => False) (fun w' e F' H' v e1 rp i => by
        cases e
        exact k _ rfl F' H' (h2.trans e1) rp v (toW i)) (fun er e => by cases e)
      have hl : ([Value.ref a] ++ ds).length = ps.length := by
        rw [← Fn.len _ _ _ _ sp]
        show ds.length + 1 = dvs.length + 1
        rw [hdv.length]
      refine PySem.W.get_bind I1.kIn J (PySem.W.plainGet_of (c.get f)).1 (PySem.W.findObj_data hc hp.at_ hp.get hp.tak) (PySem.W.plainGet_of (c.get f)).2 (wpAny_call (PySem.W.prop_get (s := { s1 with toks := s1.toks + 1 }) I1.kIn hrec ?_))
      refine codeAny_mono (Fn.run X.A.in1 X.stack { s1 with toks := s1.toks + 1 } H1 ⟨[.ref a], []⟩ (.ref a :: ds) (.ref a :: dvs) R (fun _ _ _ => False) gd.gd gd.hr.in1 I2.env0.in1 (hb _ [.ref a] I2.kIn hl) (.cons rfl hdv) sp) fun r' s' hq => ?_
      cases r' with
      | error er =>
        obtain ⟨_, _, _, _, _, _, _, _, _, _, _, _, z⟩ := hq
        exact z.elim
      | ok fl =>
        cases fl with
        | ret u =>
          obtain ⟨v, H', I3, rv, q3⟩ := I2.after hq
          show wpAny _ _ (handedOut u) _ _ _
          rw [PySem.W.handedOut_of (handed_of rv)]
          exact wpAny_pure ⟨v, H', I3, rv, q3⟩
        | next => exact False.elim hq
        | brk => exact False.elim hq
        | cont => exact False.elim hq
    · cases h1
  · cases h1
end
end L4

set_option Elab.async false
set_option linter.all false
set_option maxRecDepth 100000
set_option maxHeartbeats 4000000
/-! Methods. -/
namespace L4
open PySem PySem.Spec PyProof.Rows L2
section
variable {X : Cx} {σ : L2.St} {H : Hp} {μ : Nat → Addr} {ρ : Env} {F F1 : Hp} {G G1 G' : Cs} {e a b c o : Expr} {es : List Expr} {ma mb mc : Env → T Rv} {mas : Env → T (List Rv)} {pins : List (Addr × Obj)} {s : Shared} {τ : Tb} {q : Bool} {n : Nat} {pos p apos cpos : Pos} {r : Except Err Rv} {R : VK} {x f m : Str}
/-- the form of a method's call -/
structure MForm (X : Cx) (o : Expr) (m : Str) (es : List Expr) (apos cpos : Pos) : Prop where
  base : attributeBase o m X.env (eval o X.env) = eval o X.env
  few : ((backTo cpos (starEach es X.env)).all (fun x => !x.1) && (backToKw cpos (keywordEach [] X.env)).all (fun x => x.1.isSome)
    && decide (es.length + ([] : List Keyword).length + (if ([] : List Keyword).isEmpty then 0 else 1) < 30)) = true
  line : (apos.endLine == cpos.line) = true
  pl : Plain X cpos es
theorem mcall {Q : Value → Shared → Prop} (h : MForm X o m es apos cpos)
    (hw : wpAny (model X.prog X.w) X.A (eval o X.env) (fun ov s₁ => ∀ pl : Sem Bool, wpAny (model X.prog X.w) X.A (getMethod ov m pl) (fun fx s₂ => wpAny (model X.prog X.w) X.A (callWith cpos fx.1 fx.2 (backTo cpos (starEach es X.env)) (backToKw cpos (keywordEach [] X.env))) Q X.xe s₂) X.xe s₁) X.xe s) :
    wpAny (model X.prog X.w) X.A (eval (.Call (.Attribute o m apos) es [] cpos) X.env) Q X.xe s := by
  rw [arm_eval_Call, h.base]
  refine wpAny_bind (wpAny_mono hw (fun ov s₁ h₁ => ?_) fun _ _ e => e)
  refine wpAny_bind (wpAny_standAt ?_)
  have hform : methodCallForm (es.length + ([] : List Keyword).length) (backTo cpos (starEach es X.env)) (backToKw cpos (keywordEach [] X.env)) = true := h.few
  have hpos : methodCallPos true o X.env apos cpos = pure cpos := by unfold methodCallPos; simp [h.line]
  unfold methodCall
  rw [hform]
  refine wpAny_bind (wpAny_holding (wpAny_mono (h₁ _) (fun fx s₂ h₂ => ?_) fun _ _ e => e))
  exact wpAny_bind (wpAny_of_eq hpos h₂)
/-- a built-in's call -/
theorem call_blt {id : String} {us0 : List Value} {Q : Value → Shared → Prop} (hp : Plain X cpos es)
    (h : wpAny (model X.prog X.w) X.A (spliced (backTo cpos (starEach es X.env))) (fun us s1 => wpAny (model X.prog X.w) X.A (PySem.call (.builtin id) (us0 ++ us)) Q X.xe s1) X.xe s) :
    wpAny (model X.prog X.w) X.A (callWith cpos (.builtin id) us0 (backTo cpos (starEach es X.env)) (backToKw cpos (keywordEach [] X.env))) Q X.xe s := by
  cases es with
  | nil => exact Calls.callWith_builtin rfl (evalArgs_plain0 h)
  | cons e es =>
    rw [hp.1] at h ⊢
    refine Calls.callWith_builtin ?_ (Calls.evalArgs_plain h)
    show (false || (backTo cpos (starEach es X.env)).any (·.1)) = false
    rw [hp.2]; rfl
theorem bid_ok {T id : String} (h : bid m T = some id) : PlainAttrs T ∧ Slot T m id ∧ typeOf (.builtin id) = pure (.type "method_descriptor") := by
  unfold bid at h
  split at h
  · rename_i hT; subst hT
    repeat' (split at h)
    all_goals (first | (cases h; done) | (rename_i hm; subst hm; cases h))
    · exact ⟨PySem.F.plainAttrs_str, PySem.F.slot_str_split, PySem.F.type_str_split⟩
    · exact ⟨PySem.F.plainAttrs_str, PySem.F.slot_str_partition, PySem.F.type_str_partition⟩
    · exact ⟨PySem.F.plainAttrs_str, PySem.F.slot_str_removeprefix, PySem.F.type_str_removeprefix⟩
    · exact ⟨PySem.F.plainAttrs_str, PySem.F.slot_str_join, PySem.F.type_str_join⟩
  · split at h
    · rename_i hT; subst hT
      repeat' (split at h)
      all_goals (first | (cases h; done) | (rename_i hm; subst hm; cases h))
      · exact ⟨PySem.F.plainAttrs_list, PySem.F.slot_list_index, PySem.F.type_list_index⟩
      · exact ⟨PySem.F.plainAttrs_list, PySem.F.slot_list_append, PySem.F.type_list_append⟩
      · exact ⟨PySem.F.plainAttrs_list, PySem.F.slot_list_clear, PySem.F.type_list_clear⟩
      · exact ⟨PySem.F.plainAttrs_list, PySem.F.slot_list_pop, PySem.F.type_list_pop⟩
      · exact ⟨PySem.F.plainAttrs_list, PySem.F.slot_list_extend, PySem.F.type_list_extend⟩
      · exact ⟨PySem.F.plainAttrs_list, PySem.F.slot_list_insert, PySem.F.type_list_insert⟩
    · split at h
      · rename_i hT; subst hT
        repeat' (split at h)
        all_goals (first | (cases h; done) | (rename_i hm; subst hm; cases h))
        · exact ⟨PySem.F.plainAttrs_dict, PySem.F.slot_dict_get, PySem.F.type_dict_get⟩
        · exact ⟨PySem.F.plainAttrs_dict, PySem.F.slot_dict_clear, PySem.F.type_dict_clear⟩
      · cases h
/-- the type of a built-in thing -/
theorem ty_is {u : D} {v : V} {u' : Value} {T : String} (I : Inv X pins σ H s) (rp : Rep X.K μ F G H) (h : Sees X.K F H u v) (r : RelV v u') (ht : tagOf u = some T) (hT : T = "str" ∨ T = "list" ∨ T = "dict") : s.TypeIs u' T ∧ ∀ a, u' = .ref a → ∃ ob, s.heap.get? a = some ob ∧ ob.dict = none := by
  cases u with
  | str x => cases ht; rw [show v = .str x from h] at r; exact tyV_is (T := "str") I r (show "str" = "str" from rfl)
  | lst ds =>
    cases ht
    obtain ⟨a, vs, rfl, h2, _⟩ := h
    exact tyV_is (T := "list") I r (.inl ⟨rfl, vs, .of h2⟩)
  | dK ks ds =>
    cases ht
    obtain ⟨a, vs, rfl, h2, _⟩ := h
    cases (show u' = Value.ref a from r)
    obtain ⟨t1, t2, _⟩ := isD_at I (.inl ⟨_, h2⟩)
    exact ⟨t1, t2⟩
  | dT ks ds =>
    cases ht
    obtain ⟨a, vs, rfl, h2, _⟩ := h
    cases (show u' = Value.ref a from r)
    obtain ⟨t1, t2, _⟩ := isD_at I (.inr ⟨_, h2⟩)
    exact ⟨t1, t2⟩
  | non => cases ht; rcases hT with h | h | h <;> exact absurd h (by decide)
  | bool _ => cases ht; rcases hT with h | h | h <;> exact absurd h (by decide)
  | int _ => cases ht; rcases hT with h | h | h <;> exact absurd h (by decide)
  | tup _ => cases ht; rcases hT with h | h | h <;> exact absurd h (by decide)
  | _ => cases ht
theorem bid_T {T id : String} (h : bid m T = some id) : T = "str" ∨ T = "list" ∨ T = "dict" := by
  unfold bid at h
  split at h
  · rename_i hT; exact .inl hT
  · split at h
    · rename_i hT; exact .inr (.inl hT)
    · split at h
      · rename_i hT; exact .inr (.inr hT)
      · cases h
abbrev SeesL (K : PySem.W.Frag) (F H : Hp) : List D → List V → Prop := Paired (Sees K F H)
theorem sees_L : ∀ {ws : List Rv} {vs : List V} {ds : List D}, Rep X.K μ F G H → Paired (IsW X μ F G H) ws vs → ws.mapM (see G) = some ds → SeesL X.K F H ds vs
  | [], _, _, _, .nil, h => by cases h; exact .nil
  | w :: ws, _, ds, rp, .cons i t, h => by
    rw [List.mapM_cons] at h
    cases h1 : see G w with
    | none => rw [h1] at h; cases h
    | some d =>
      rw [h1] at h
      cases h2 : ws.mapM (see G) with
      | none => rw [h2] at h; cases h
      | some ds' =>
        rw [h2] at h
        cases h
        exact .cons (i.sees rp h1) (sees_L rp t h2)
theorem strsL_ok {K : PySem.W.Frag} : ∀ {ds : List D} {ss : List Str} {vs : List V}, strsL ds = some ss → IsL K F ds vs → vs = ss.map V.str
  | [], ss, vs, h, i => by cases h; exact i
  | d :: ds, ss, vs, h, i => by
    obtain ⟨v, r, rfl, h1, h2⟩ := i
    cases d <;> first | (cases h; done) | skip
    rename_i x
    obtain ⟨ss', e, rfl⟩ := Option.map_eq_some_iff.mp (show (strsL ds).map (x :: ·) = some ss from h)
    rw [strsL_ok e h2, show v = .str x from h1]
    rfl
theorem isL_strs {K : PySem.W.Frag} : ∀ (ss : List Str), IsL K F (ss.map D.str) (ss.map V.str)
  | [] => IsL.nil
  | s :: ss => .cons rfl (isL_strs ss)
/-- what a method that changes nothing gives -/
theorem opv_met {u : D} {ds : List D} {v : V} {vs : List V} {u' : Value} {us : List Value} {w : Rv} (hu : X.A.units + 65 < cLine) (I : Inv X pins σ H s) (rp : Rep X.K μ F G H) (su : Sees X.K F H u v) (r : RelV v u') (sa : SeesL X.K F H ds vs) (rv : Vals vs us)
    (hg : m = "get" → Paired (Is X.K F) ds vs) (hx : metD m u ds = some w) (f : Fn' X σ μ F G (.ok w) R) : ∃ T id, tagOf u = some T ∧ bid m T = some id ∧ wpAny (model X.prog X.w) X.A (PySem.call (.builtin id) (u' :: us)) (EP X pins σ R) X.xe s := by
  have nw : ∀ {zs : List Str}, w = .n (.lst (zs.map D.str)) → ∀ p, H p = none → R (.ref p) (upd H p (.lst (zs.map V.str))) := fun e p np => by
    subst e
    exact f.new rp rfl np ⟨_, upd_same, isL_strs _⟩
  unfold metD at hx
  split at hx
  · rename_i x t
    cases sa with
    | cons h1 ht =>
      cases ht
      have e1 : v = .str x := su
      rename_i v2
      have e2 : v2 = .str t := h1
      subst e1 e2
      split at hx
      · rename_i hm; subst hm
        obtain ⟨hc, e⟩ := askO_ok hx
        cases e
        obtain ⟨c1, c2⟩ := Bool.and_eq_true_iff.mp hc
        have c1 : x.length ≤ line := of_decide_eq_true c1
        refine ⟨"str", _, rfl, rfl, mt_split pins s σ H _ _ _ _ R I r rv ⟨x, t, rfl, rfl, ?_, ?_, fun p np => nw rfl p np⟩⟩
        · cases h : (t.length == 0) with
          | false => rfl
          | true => rw [h] at c2; cases c2
        · have : line = 1000000 := rfl
          rw [sizeLine_eq]; omega
      · split at hx
        · rename_i hm; subst hm
          obtain ⟨hc, e⟩ := askO_ok hx
          cases e
          obtain ⟨c1, c2⟩ := Bool.and_eq_true_iff.mp hc
          refine ⟨"str", _, rfl, rfl, mt_partition pins s σ H _ _ _ _ R I r rv ⟨x, t, rfl, rfl, ?_, line_ok (of_decide_eq_true c1), fun p np => f.newF rp rfl np ⟨p, _, rfl, upd_same, .cons rfl (.cons rfl (.cons rfl .nil))⟩⟩⟩
          cases h : (t.length == 0) with
          | false => rfl
          | true => rw [h] at c2; cases c2
        · split at hx
          · rename_i hm; subst hm
            obtain ⟨hc, e⟩ := askO_ok hx
            cases e
            exact ⟨"str", _, rfl, rfl, mt_removeprefix pins s σ H _ _ _ _ R I r rv ⟨x, t, rfl, rfl, line_ok (of_decide_eq_true hc), f.dat rp rfl rfl⟩⟩
          · cases hx
  · rename_i x xs
    cases sa with
    | cons h1 ht =>
      cases ht
      have e1 : v = .str x := su
      subst e1
      obtain ⟨b, vs2, rfl, hb, hi⟩ := h1
      split at hx
      · rename_i hm; subst hm
        split at hx
        · rename_i ss hss
          obtain ⟨hc, e⟩ := askO_ok hx
          cases e
          have := strsL_ok hss hi
          subst this
          exact ⟨"str", _, rfl, rfl, mt_join pins s σ H _ _ _ _ R I r rv ⟨x, b, ss, rfl, rfl, .inl (.of hb), of_decide_eq_true hc, f.dat rp rfl rfl⟩⟩
        · cases hx
      · cases hx
  · rename_i x xs
    cases sa with
    | cons h1 ht =>
      cases ht
      have e1 : v = .str x := su
      subst e1
      obtain ⟨b, vs2, rfl, hb, hi⟩ := h1
      split at hx
      · rename_i hm; subst hm
        split at hx
        · rename_i ss hss
          obtain ⟨hc, e⟩ := askO_ok hx
          cases e
          have := strsL_ok hss hi
          subst this
          exact ⟨"str", _, rfl, rfl, mt_join pins s σ H _ _ _ _ R I r rv ⟨x, b, ss, rfl, rfl, .inr (.of (rp.sub _ _ hb)), of_decide_eq_true hc, f.dat rp rfl rfl⟩⟩
        · cases hx
      · cases hx
  · rename_i xs a
    cases sa with
    | cons h1 ht =>
      cases ht
      split at hx
      · rename_i hm; subst hm
        obtain ⟨hc, e⟩ := askO_ok hx
        obtain ⟨c1, c2⟩ := Bool.and_eq_true_iff.mp hc
        obtain ⟨j, hj, e⟩ := Option.map_eq_some_iff.mp e
        cases e
        obtain ⟨a1, a2⟩ := Bool.and_eq_true_iff.mp c1
        obtain ⟨hlt, hj1, hj2⟩ := List.findIdx?_eq_some_iff_getElem.mp hj
        obtain ⟨b, vs2, rfl, hb, hi⟩ := su
        obtain ⟨b1, b2⟩ := Bool.and_eq_true_iff.mp c2
        refine ⟨"list", _, rfl, rfl, mt_indexD hu pins s σ H _ _ _ _ R I r rv ⟨b, _, pyD a, pyL xs, j, pyD xs[j], rfl, rfl, .lst (.inl (.inl hb)) (is_dpL rp.sub xs vs2 b1 hi), sees_dp rp.sub a1 h1, b2, a2, ?_, hj1, fun m z' hm hz => ?_, f.dat rp rfl rfl⟩⟩
        · rw [pyL_eq, List.getElem?_map, List.getElem?_eq_getElem hlt]; rfl
        · rw [pyL_eq, List.getElem?_map, List.getElem?_eq_getElem (by omega)] at hz
          cases hz
          have := hj2 m hm
          simpa using this
      · cases hx
  · rename_i ks ds k
    cases sa with
    | cons h1 ht =>
      cases ht
      split at hx
      · rename_i hm; subst hm
        obtain ⟨o, ho, e⟩ := Option.map_eq_some_iff.mp hx
        cases e
        obtain ⟨a, z, rfl, g, oi⟩ := dget_ok rp.sub h1 su ho
        cases (show u' = Value.ref a from r)
        cases rv with
        | cons r1 rt =>
          cases rt
          refine ⟨"dict", _, rfl, rfl, dg_get1 (by omega) I g r1 fun w' s' I' rw' => ⟨_, H, I', rw', f.dat rp rfl ?_⟩⟩
          cases o <;> cases z <;> first | exact oi | exact oi.elim | exact (rfl : V.non = V.non)
      · cases hx
  · rename_i ks ds k
    cases sa with
    | cons h1 ht =>
      cases ht
      split at hx
      · rename_i hm; subst hm
        obtain ⟨o, ho, e⟩ := Option.map_eq_some_iff.mp hx
        cases e
        obtain ⟨a, z, rfl, g, oi⟩ := dget_ok rp.sub h1 su ho
        cases (show u' = Value.ref a from r)
        cases rv with
        | cons r1 rt =>
          cases rt
          refine ⟨"dict", _, rfl, rfl, dg_get1 (by omega) I g r1 fun w' s' I' rw' => ⟨_, H, I', rw', f.dat rp rfl ?_⟩⟩
          cases o <;> cases z <;> first | exact oi | exact oi.elim | exact (rfl : V.non = V.non)
      · cases hx
  · rename_i ks ds k e0
    cases sa with
    | cons h1 ht =>
      cases ht with
      | cons h2 ht =>
        cases ht
        split at hx
        · rename_i hm; subst hm
          have hi := hg rfl
          obtain ⟨o, ho, e⟩ := Option.map_eq_some_iff.mp hx
          cases e
          obtain ⟨a, z, rfl, g, oi⟩ := dget_ok rp.sub h1 su ho
          cases (show u' = Value.ref a from r)
          cases rv with
          | cons r1 rt =>
            cases rt with
            | cons r2 rt =>
              cases rt
              refine ⟨"dict", _, rfl, rfl, dg_get2 (by omega) I g r1 r2 fun w' s' I' rw' => ⟨_, H, I', rw', f.dat rp rfl ?_⟩⟩
              cases hi with
              | cons i1 it =>
                cases it with
                | cons i2 it =>
                  cases o <;> cases z <;> first | exact oi | exact oi.elim | exact i2
        · cases hx
  · rename_i ks ds k e0
    cases sa with
    | cons h1 ht =>
      cases ht with
      | cons h2 ht =>
        cases ht
        split at hx
        · rename_i hm; subst hm
          have hi := hg rfl
          obtain ⟨o, ho, e⟩ := Option.map_eq_some_iff.mp hx
          cases e
          obtain ⟨a, z, rfl, g, oi⟩ := dget_ok rp.sub h1 su ho
          cases (show u' = Value.ref a from r)
          cases rv with
          | cons r1 rt =>
            cases rt with
            | cons r2 rt =>
              cases rt
              refine ⟨"dict", _, rfl, rfl, dg_get2 (by omega) I g r1 r2 fun w' s' I' rw' => ⟨_, H, I', rw', f.dat rp rfl ?_⟩⟩
              cases hi with
              | cons i1 it =>
                cases it with
                | cons i2 it =>
                  cases o <;> cases z <;> first | exact oi | exact oi.elim | exact i2
        · cases hx
  · cases hx
end
end L4

set_option Elab.async false
set_option linter.all false
set_option maxRecDepth 100000
set_option maxHeartbeats 4000000
/-! Methods that change cells; methods as expressions. -/
namespace L4
open PySem PySem.Spec PyProof.Rows L2
section
variable {X : Cx} {σ : L2.St} {H : Hp} {μ : Nat → Addr} {ρ : Env} {F F1 : Hp} {G G1 G' : Cs} {e a b c o : Expr} {es : List Expr} {ma mb mc : Env → T Rv} {mas : Env → T (List Rv)} {pins : List (Addr × Obj)} {s : Shared} {τ : Tb} {q : Bool} {n : Nat} {pos p apos cpos : Pos} {r : Except Err Rv} {R : VK} {x f m : Str}
theorem Rep.setCell {K : PySem.W.Frag} {l : Nat} {u u' : D} {ho : HO} (r : Rep K μ F G H) (hl : G[l]? = some u) (ob : Ob K F (upd H (μ l) ho) (μ l) u') : Rep K μ F (G.set l u') (upd H (μ l) ho) := by
  obtain ⟨h1, h2⟩ := r.at_ l u hl
  have hlt := (List.getElem?_eq_some_iff.mp hl).1
  refine ⟨fun a o ha => ?_, fun l' d e => ?_, fun l1 l2 k1 k2 e => ?_⟩
  · rw [upd_ne (ne_of_none ha h1)]; exact r.sub a o ha
  · by_cases hll : l = l'
    · subst hll
      rw [List.getElem?_set_self hlt] at e
      cases e
      exact ⟨h1, ob⟩
    · rw [List.getElem?_set_ne hll] at e
      obtain ⟨h3, h4⟩ := r.at_ l' d e
      have hlt' := (List.getElem?_eq_some_iff.mp e).1
      exact ⟨h3, h4.same (upd_ne fun z => hll (r.inj l l' hlt hlt' z.symm))⟩
  · rw [List.length_set] at k1 k2
    exact r.inj l1 l2 k1 k2 e
theorem isL_eraseIdx {K : PySem.W.Frag} : ∀ {ds : List D} {vs : List V} (i : Nat), IsL K F ds vs → IsL K F (ds.eraseIdx i) (vs.eraseIdx i)
  | [], _, _, h => by rw [show _ = [] from h]; simp [IsL]
  | d :: ds, _, 0, h => by
    obtain ⟨v, r, rfl, h1, h2⟩ := h
    exact h2
  | d :: ds, _, i + 1, h => by
    obtain ⟨v, r, rfl, h1, h2⟩ := h
    exact ⟨v, _, rfl, h1, isL_eraseIdx i h2⟩
theorem atI_ix {α : Type} {xs : List α} {i : Int} {x : α} (h : atI xs i = some x) : ∃ j, ixN xs.length i = some j ∧ xs[j]? = some x := by
  unfold atI at h
  cases e : ixN xs.length i with
  | none => rw [e] at h; cases h
  | some j => rw [e] at h; exact ⟨j, rfl, h⟩
theorem asD_all : ∀ {ws : List Rv} {ds : List D} {vs : List V}, ws.mapM asD = some ds → Paired (IsW X μ F G H) ws vs → Paired (Is X.K F) ds vs
  | [], ds, _, h, .nil => by cases h; exact .nil
  | w :: ws, ds, _, h, .cons i t => by
    rw [List.mapM_cons] at h
    cases w with
    | d u =>
      cases h2 : ws.mapM asD with
      | none => rw [h2] at h; cases h
      | some ds' =>
        rw [h2] at h
        cases h
        exact .cons i (asD_all h2 t)
    | r l => cases h
    | n u => cases h
    | ex er => cases h
theorem asD_see : ∀ {ws : List Rv} {ds : List D}, ws.mapM asD = some ds → ws.mapM (see G) = some ds
  | [], ds, h => h
  | w :: ws, ds, h => by
    rw [List.mapM_cons] at h ⊢
    cases w with
    | d u =>
      cases h2 : ws.mapM asD with
      | none => rw [h2] at h; cases h
      | some ds' =>
        rw [h2] at h
        cases h
        rw [asD_see h2]
        rfl
    | r l => cases h
    | n u => cases h
    | ex er => cases h
/-- a cell is changed -/
theorem opv_mut {l : Nat} {u u' z : D} {ds : List D} {vs : List V} {us : List Value} (I : Inv X pins σ H s) (rp : Rep X.K μ F G H) (hl : G[l]? = some u) (sa : Paired (Is X.K F) ds vs) (rv : Vals vs us)
    (hx : mutD m u ds = some (u', z)) (f : ∀ H' v, Rep X.K μ F (G.set l u') H' → Is X.K F z v → R v H') : ∃ T id, tagOf u = some T ∧ bid m T = some id ∧ wpAny (model X.prog X.w) X.A (PySem.call (.builtin id) (.ref (μ l) :: us)) (EP X pins σ R) X.xe s := by
  obtain ⟨h1, ob⟩ := rp.at_ l u hl
  unfold mutD at hx
  split at hx
  · rename_i xs
    cases sa
    obtain ⟨ws, hw, hi⟩ := ob
    split at hx
    · rename_i hm; subst hm
      cases hx
      exact ⟨"list", _, rfl, rfl, mt_clear pins s σ H _ _ _ _ R I (show RelV (V.ref (μ l)) (Value.ref (μ l)) from rfl) rv ⟨_, ws, rfl, rfl, hw, f _ _ (rp.setCell hl ⟨[], upd_same, IsL.nil⟩) rfl⟩⟩
    · split at hx
      · rename_i hm; subst hm
        obtain ⟨v0, hv0, e⟩ := Option.map_eq_some_iff.mp hx
        cases e
        obtain ⟨j, hj, hxj⟩ := atI_ix hv0
        obtain ⟨v1, hv1, hi1⟩ := hi.get hxj
        have hlen := hi.length
        have hj' : j = xs.length - 1 := by
          unfold ixN at hj
          rw [if_neg (by omega)] at hj
          split at hj
          · cases hj; omega
          · cases hj
        refine ⟨"list", _, rfl, rfl, mt_pop pins s σ H _ _ _ _ R I (show RelV (V.ref (μ l)) (Value.ref (μ l)) from rfl) rv ⟨_, ws, v1, rfl, rfl, hw, by rw [hlen, ← hj']; exact hv1, f _ _ (rp.setCell hl ⟨_, upd_same, ?_⟩) hi1⟩⟩
        have : ws.dropLast = ws.eraseIdx (xs.length - 1) := by rw [← hlen, List.eraseIdx_length_sub_one]
        rw [this]
        exact isL_eraseIdx _ hi
      · cases hx
  · rename_i xs a
    cases sa with
    | cons ia it =>
      cases it
      obtain ⟨ws, hw, hi⟩ := ob
      have hlen := hi.length
      split at hx
      · rename_i hm; subst hm
        obtain ⟨hc, e⟩ := askO_ok hx
        cases e
        have hc : xs.length < line := of_decide_eq_true hc
        refine ⟨"list", _, rfl, rfl, mt_append pins s σ H _ _ _ _ R I (show RelV (V.ref (μ l)) (Value.ref (μ l)) from rfl) rv ⟨_, ws, _, rfl, rfl, hw, ?_, f _ _ (rp.setCell hl ⟨_, upd_same, hi.append (.cons ia .nil)⟩) rfl⟩⟩
        have : line = 1000000 := rfl
        rw [sizeLine_eq]; omega
      · split at hx
        · rename_i hm; subst hm
          split at hx
          · rename_i i
            obtain ⟨j, hj, hx⟩ := Option.bind_eq_some_iff.mp hx
            obtain ⟨v0, hv0, e⟩ := Option.map_eq_some_iff.mp hx
            cases e
            obtain ⟨v1, hv1, hi1⟩ := hi.get hv0
            obtain ⟨k1, k2, k3, k4⟩ := ixN_seq hj
            have ez : xs.length ≤ sizeLine := by
              obtain ⟨zz, _⟩ := I.hok _ _ hw
              omega
            have e0 := sizeLine_eq
            refine ⟨"list", _, rfl, rfl, mt_popAt pins s σ H _ _ _ _ R I (show RelV (V.ref (μ l)) (Value.ref (μ l)) from rfl) rv ⟨_, ws, i, j, v1, rfl, congrArg (fun z => [z]) (show _ = V.int i from ia), hw, by omega, by omega, by rw [hlen]; exact k1, hv1, f _ _ (rp.setCell hl ⟨_, upd_same, isL_eraseIdx _ hi⟩) hi1⟩⟩
          · cases hx
        · split at hx
          · rename_i hm; subst hm
            split at hx
            · rename_i ys
              obtain ⟨hc, e⟩ := askO_ok hx
              cases e
              obtain ⟨b, us2, rfl, hb, hi2⟩ := ia
              exact ⟨"list", _, rfl, rfl, mt_extend pins s σ H _ _ _ _ R I (show RelV (V.ref (μ l)) (Value.ref (μ l)) from rfl) rv ⟨_, b, ws, us2, rfl, rfl, hw, rp.sub _ _ hb, by rw [hlen, hi2.length]; exact line_ok (of_decide_eq_true hc), f _ _ (rp.setCell hl ⟨_, upd_same, hi.append hi2⟩) rfl⟩⟩
            · cases hx
          · cases hx
  · rename_i xs i a
    cases sa with
    | cons ia it =>
      cases it with
      | cons ib it =>
        cases it
        obtain ⟨ws, hw, hi⟩ := ob
        have hlen := hi.length
        split at hx
        · rename_i hm; subst hm
          obtain ⟨hc, e⟩ := askO_ok hx
          cases e
          obtain ⟨c1, c2⟩ := Bool.and_eq_true_iff.mp hc
          obtain ⟨c2, c3⟩ := Bool.and_eq_true_iff.mp c2
          have c1 : xs.length < line := of_decide_eq_true c1
          have c2 : 0 ≤ i := of_decide_eq_true c2
          have c3 : i ≤ xs.length := of_decide_eq_true c3
          have e0 : line = 1000000 := rfl
          have e1 := sizeLine_eq
          have ei := (show _ = V.int i from ia)
          subst ei
          refine ⟨"list", _, rfl, rfl, mt_insert pins s σ H _ _ _ _ R I (show RelV (V.ref (μ l)) (Value.ref (μ l)) from rfl) rv ⟨_, ws, i, _, rfl, rfl, hw, by omega, c2, by omega, f _ _ (rp.setCell hl ⟨_, upd_same, ?_⟩) rfl⟩⟩
          rw [List.append_assoc]
          exact (hi.take _).append (.cons ib (hi.drop _))
        · cases hx
  · rename_i ks ds
    cases sa
    obtain ⟨ws, hw, _, hi⟩ := ob
    split at hx
    · rename_i hm; subst hm
      cases hx
      exact ⟨"dict", _, rfl, rfl, mtd_clear pins s σ H _ _ _ _ R I (show RelV (V.ref (μ l)) (Value.ref (μ l)) from rfl) rv ⟨_, _, rfl, rfl, hw, f _ _ (rp.setCell hl ⟨[], upd_same, rfl, IsL.nil⟩) rfl⟩⟩
    · cases hx
  · cases hx
end
end L4

set_option Elab.async false
set_option linter.all false
set_option maxRecDepth 100000
set_option maxHeartbeats 4000000
/-! Methods as expressions. -/
namespace L4
open PySem PySem.Spec PyProof.Rows L2
section
variable {X : Cx} {σ : L2.St} {H : Hp} {μ : Nat → Addr} {ρ : Env} {F F1 : Hp} {G G1 G' : Cs} {e a b c o : Expr} {es : List Expr} {ma mb mc : Env → T Rv} {mas : Env → T (List Rv)} {pins : List (Addr × Obj)} {s : Shared} {τ : Tb} {q : Bool} {n : Nat} {pos p apos cpos : Pos} {r : Except Err Rv} {R : VK} {x f m : Str}
theorem kd_ins {u : D} {C : Str} (h : kd u = .i C) : ∃ ns ds, u = .ins C ns ds := by
  cases u <;> first | (cases h; exact ⟨_, _, rfl⟩) | (cases h; done)
theorem kd_cl {u : D} {C : Str} (h : kd u = .c C) : u = .cl C := by
  cases u <;> first | (cases h; rfl) | (cases h; done)
theorem kd_tag {u : D} {T : String} (h : kd u = .t T) : tagOf u = some T := by
  cases u <;> first | (cases h; rfl) | (cases h; done)
theorem tag_kd {u : D} {T : String} (h : tagOf u = some T) : kd u = .t T := by
  cases u <;> first | (cases h; rfl) | (cases h; done)
theorem mut_hd {u : D} {T : String} (h : tagOf u = some T) : (∀ C ns vs, u ≠ .ins C ns vs) ∧ ∀ C, u ≠ .cl C := by
  cases u <;> first | (cases h; done) | skip
  all_goals exact ⟨fun _ _ _ z => (by cases z), fun _ z => (by cases z)⟩
/-- a class method's def -/
theorem run_cls {C : Str} {ws : List Rv} {vs : List V} {us : List Value} {qa : Addr} (gd : Good τ q n X) (hx : (hd τ.pg q n).call (.c C m) ws G = some (r, G')) (I : Inv X ((qa, PySem.W.methodObj (.ref (recFn X.K C "classmethod" m)) (.ref (He.ga X.K C))) :: pins) σ H s) (rp : Rep X.K μ F G H) (ha : Paired (IsW X μ F G H) ws vs) (hv : Vals vs us) (fin : Cl0 X σ μ F G' r R) :
    wpAny (model X.prog X.w) X.A (PySem.call (.ref qa) us) (EP X pins σ R) X.xe s := by
  have lv := gd.lv
  cases n with
  | zero => cases hx
  | succ n =>
    have hx : call τ.pg q (n + 1) (.c C m) ws G = some (r, G') := hx
    unfold call at hx
    cases hf : τ.pg.fn (.c C m) with
    | none => rw [hf] at hx; cases hx
    | some fd =>
      rw [hf] at hx
      dsimp only at hx
      cases hw : argsOf { fd with np := fd.np - 1 } ws with
      | none => rw [hw] at hx; cases hx
      | some ws' =>
        rw [hw] at hx
        obtain ⟨hc, hr, hnp⟩ := gd.kn.c C m fd hf
        have z : codeAny (model X.prog X.w) X.A (.call (.ref (adr X.K (.c C m))) ⟨[.ref (He.ga X.K C)] ++ us, []⟩) (Back X ((qa, PySem.W.methodObj (.ref (recFn X.K C "classmethod" m)) (.ref (He.ga X.K C))) :: pins) σ R) s :=
          code_fd (pre := [.d (.cl C)]) (prv := [.ref (He.ga X.K C)]) lv hf gd.gd (gd.hr.mono (by omega)) I.env0 I rp (.cons rfl .nil) (.cons rfl .nil) ha hv (ws' := ws') hw hnp hx fin
        have hp : s.heap.get? qa = some (PySem.W.methodObj (.ref (recFn X.K C "classmethod" m)) (.ref (He.ga X.K C))) := (I.pin _ (List.mem_append_right _ List.mem_cons_self)).1
        exact thn (back_wp (PySem.W.method_call hp z)) fun _ _ y => ClX.unpinE y
/-- after the receiver: the method is looked up, the arguments come, it runs -/
theorem met_core {w : Rv} {v1 : V} {u1 : Value} (gd : Good τ q n X) (ha : WxA X es mas) (la : ∀ ρ, Lc (mas ρ)) (hp : Plain X cpos es) {ne : Bool} (hne : ne = true → es ≠ []) (I : Inv X pins σ H s) (A : At X σ H μ ρ F G) (iw : IsW X μ F G H w v1) (nn : ∀ u, w ≠ .n u) (r1 : RelV v1 u1)
    (hx : (T.bind (kindT (hd τ.pg q n) m ne w) fun k => T.bind (mas ρ) fun ws => eMet (hd τ.pg q n) w m k ws) G = some (r, G')) (f : Fn' X σ μ F G' r R) (pl : Sem Bool) :
    wpAny (model X.prog X.w) X.A (getMethod u1 m pl) (fun fx s₂ => wpAny (model X.prog X.w) X.A (callWith cpos fx.1 fx.2 (backTo cpos (starEach es X.env)) (backToKw cpos (keywordEach [] X.env))) (EP X pins σ R) X.xe s₂) X.xe s := by
  rcases T.bind_ok hx with ⟨er, h1, _⟩ | ⟨k, G1, h1, h2⟩
  · unfold kindT at h1
    split at h1
    · rename_i u _
      cases hk : knows (hd τ.pg q n) m ne u <;> rw [hk] at h1 <;> cases h1
    · cases h1
  · unfold kindT at h1
    split at h1
    · rename_i u hu
      cases hk : knows (hd τ.pg q n) m ne u with
      | false => rw [hk] at h1; cases h1
      | true =>
        rw [hk] at h1
        cases h1
        have su := iw.sees A.rep hu
        -- what is left behind the arguments
        have left : ∀ {pins : List (Addr × Obj)} {us : List Value} {s1 : Shared}, (∃ vs H1 ws G1 F1, Inv X pins σ H1 s1 ∧ Vals vs us ∧ eMet (hd τ.pg q n) w m (kd u) ws G1 = some (r, G') ∧ Ex F F1 ∧ At X σ H1 μ ρ F1 G1 ∧ G1.length = G.length ∧ FinE X σ μ F1 G' r ∧ NoN ws ∧ Paired (IsW X μ F1 G1 H1) ws vs) →
            ∃ vs H1 ws G1 F1 u2, Inv X pins σ H1 s1 ∧ Vals vs us ∧ see G1 w = some u2 ∧ kd u2 = kd u ∧ Fn' X σ μ F1 G' r R ∧ At X σ H1 μ ρ F1 G1 ∧ IsW X μ F1 G1 H1 w v1 ∧ Paired (IsW X μ F1 G1 H1) ws vs ∧ eM2 (hd τ.pg q n) w m ws u2 G1 = some (r, G') := by
          rintro pins us s1 ⟨vs, H1, ws, G1, F1, I1, rv, h3, e1, A1, l1, fe, n1, iws⟩
          unfold eMet at h3
          split at h3
          · rename_i u2 hu2
            cases hd2 : decide (kd u2 = kd u) with
            | false => rw [hd2] at h3; cases h3
            | true =>
              rw [hd2] at h3
              exact ⟨vs, H1, ws, G1, F1, u2, I1, rv, hu2, of_decide_eq_true hd2, f.mono e1, A1, iw.mono nn e1 (Nat.le_of_eq l1.symm), iws, h3⟩
          · cases h3
        have blt : ∀ (hk : knows (hd τ.pg q n) m ne u = true), (∀ C ns vs, u ≠ .ins C ns vs) → (∀ C, u ≠ .cl C) → wpAny (model X.prog X.w) X.A (getMethod u1 m pl) (fun fx s₂ => wpAny (model X.prog X.w) X.A (callWith cpos fx.1 fx.2 (backTo cpos (starEach es X.env)) (backToKw cpos (keywordEach [] X.env))) (EP X pins σ R) X.xe s₂) X.xe s := by
          intro hk hi hc
          obtain ⟨T, id, hT, hb⟩ : ∃ T id, tagOf u = some T ∧ bid m T = some id := by
            have : knows (hd τ.pg q n) m ne u = (match tagOf u with | some T => (bid m T).isSome | none => false) := by
              cases u <;> first | rfl | exact absurd rfl (hi _ _ _) | exact absurd rfl (hc _)
            rw [this] at hk
            cases h : tagOf u with
            | none => rw [h] at hk; cases hk
            | some T =>
              rw [h] at hk
              obtain ⟨id, hid⟩ := Option.isSome_iff_exists.mp hk
              exact ⟨T, id, rfl, hid⟩
          obtain ⟨pa, slot, hty⟩ := bid_ok hb
          obtain ⟨t1, t2⟩ := ty_is I A.rep su r1 hT (bid_T hb)
          refine getMethod_builtin t1 pa slot hty t2 ?_
          refine call_blt (us0 := [u1]) hp (thn (ha.go cpos I A (la ρ) h2 f.e) fun us s1 z => ?_)
          obtain ⟨vs, H1, ws, G2, F2, u2, I1, rv, hu2, hkd, f1, A1, iw1, iws, hm⟩ := left z
          have hT2 : tagOf u2 = some T := kd_tag (hkd.trans (tag_kd hT))
          obtain ⟨m1, m2⟩ := mut_hd hT2
          have hu : X.A.units + 65 < cLine := by have := gd.hr.un; omega
          have e3 : eM2 (hd τ.pg q n) w m ws u2 = eM3 w m ws u2 := by
            unfold eM2
            cases u2 <;> first | rfl | exact absurd rfl (m1 _ _ _) | exact absurd rfl (m2 _)
          rw [e3] at hm
          unfold eM3 at hm
          split at hm
          · split at hm
            · rename_i l ds hds
              split at hm
              · rename_i u' v hmu
                cases hm
                obtain ⟨hl, ev⟩ := (show IsV X.K μ F2 G2 H1 (.r l) v1 from iw1)
                subst ev
                cases (show u1 = Value.ref (μ l) from r1)
                obtain ⟨T', id', e1, e2, run⟩ := opv_mut (R := R) I1 A1.rep hu2 (asD_all hds iws) rv hmu fun H' v' rp' iv => f1.k _ rfl F2 H' v' (Ex.refl F2) rp' iv
                rw [hT2] at e1
                cases e1
                rw [hb] at e2
                cases e2
                exact run
              · cases hm
            · cases hm
          · split at hm
            · rename_i ds hds
              split at hm
              · rename_i w2 hme
                cases hm
                have hsee : ws.mapM (see G') = some ds := by
                  split at hds
                  · exact asD_see hds
                  · exact hds
                obtain ⟨T', id', e1, e2, run⟩ := opv_met (R := R) hu I1 A1.rep (iw1.sees A1.rep hu2) r1 (sees_L A1.rep iws hsee) rv (fun hg => by rw [if_pos hg] at hds; exact asD_all hds iws) hme f1
                rw [hT2] at e1
                cases e1
                rw [hb] at e2
                cases e2
                exact run
              · cases hm
            · cases hm
        cases u with
        | ins C ns ds =>
          obtain ⟨k1, k2⟩ := Bool.and_eq_true_iff.mp (show ((hd τ.pg q n).cls C && ((hd τ.pg q n).has (.m C m) && (fldL m ns ds).isNone)) = true from hk)
          obtain ⟨k2, k3⟩ := Bool.and_eq_true_iff.mp k2
          have k1 : τ.pg.cls C = true := k1
          obtain ⟨fd, hfd⟩ := Option.isSome_iff_exists.mp (show (τ.pg.fn (.m C m)).isSome = true from k2)
          obtain ⟨a, dx, vs0, rfl, h3, _, hi⟩ := su
          cases (show u1 = Value.ref a from r1)
          have me := gd.kn.m C m fd hfd
          have ln : (ns.zip vs0).lookup m = none := by
            have := fld_val (f := m) (ns := ns) hi
            rw [Option.isNone_iff_eq_none.mp k3] at this
            cases h : (ns.zip vs0).lookup m with
            | none => rfl
            | some v => rw [h] at this; exact this.elim
          refine getmeth_ok I h3 (gd.kn.cls C k1).cl me ln ?_
          refine call_known (us0 := [.ref a]) I me.kp hp (thn (ha.go cpos I A (la ρ) h2 f.e) fun us s1 z => ?_)
          obtain ⟨vs, H1, ws, G2, F2, u2, I1, rv, hu2, hkd, f1, A1, iw1, iws, hm⟩ := left z
          refine ⟨I1.kIn, ?_⟩
          obtain ⟨ns2, ds2, rfl⟩ := kd_ins hkd
          exact (run_fi (A' := X.A) rfl hm gd.lv gd.gd (gd.hr.mono (by omega)) I1.env0 I1 A1.rep (.cons iw1 iws) (.cons rfl rv) f1.cl).2
        | cl C =>
          obtain ⟨hk0, hk⟩ := Bool.and_eq_true_iff.mp (show (ne && (hd τ.pg q n).has (.c C m)) = true from hk)
          obtain ⟨fd, hfd⟩ := Option.isSome_iff_exists.mp (show (τ.pg.fn (.c C m)).isSome = true from hk)
          obtain ⟨hc, hr, hnp⟩ := gd.kn.c C m fd hfd
          have ev : v1 = .ref (He.ga X.K C) := su
          subst ev
          cases (show u1 = Value.ref (He.ga X.K C) from r1)
          refine ClX.getmethcm_ok I hr hc fun s2 I2 => ?_
          cases es with
          | nil => exact absurd rfl (hne hk0)
          | cons e es =>
            refine ClX.callwith_cm I2 (ClX.base_none I (Nat.le_refl _)) hc.fi (thn (ha.go cpos (pins := _) I2 A (la ρ) h2 f.e) fun us s3 z => ?_) hp.1 hp.2
            obtain ⟨vs, H1, ws, G2, F2, u2, I1, rv, hu2, hkd, f1, A1, iw1, iws, hm⟩ := left z
            have := kd_cl hkd
            subst this
            exact ⟨⟨ClX.pin_at I1, I1.kIn⟩, run_cls gd hm I1 A1.rep iws rv f1.cl⟩
        | _ => exact blt hk (fun _ _ _ z => (by cases z)) (fun _ z => (by cases z))
    · cases h1
theorem EnvOk.push {a : Addr} {u : D} (h : EnvOk X μ F G ρ σ) : EnvOk X (fun l => if l = G.length then a else μ l) F (G ++ [u]) ρ σ :=
  ⟨h.len, fun i w hw => by
    obtain ⟨v, h1, h2⟩ := h.at_ i w hw
    refine ⟨v, h1, ?_⟩
    cases w with
    | d u => exact h2
    | r l =>
      obtain ⟨k1, k2⟩ := h2
      refine ⟨by rw [List.length_append, List.length_singleton]; omega, ?_⟩
      show v = .ref (if l = G.length then a else μ l)
      rw [if_neg (by omega)]
      exact k2
    | n u => exact h2
    | ex er => exact h2⟩
theorem lend_ok {u : D} {f : Rv → T Rv} (h : lend u f G = some (r, G')) : ∃ G1, f (.r G.length) (G ++ [u]) = some (r, G1) ∧ G' = G1.take G.length ∧ ∀ w, r = .ok w → ∃ v, w = .d v := by
  unfold lend at h
  split at h
  · rename_i v G1 e1
    cases h
    exact ⟨G1, e1, rfl, fun w e => by cases e; exact ⟨v, rfl⟩⟩
  · rename_i er G1 e1
    cases h
    exact ⟨G1, e1, rfl, fun w e => by cases e⟩
  · cases h
/-- o.m(..) -/
theorem wx_met {ne : Bool} (gd : Good τ q n X) (ho : Wx X o ma) (lo : ∀ ρ, Lc (ma ρ)) (ha : WxA X es mas) (la : ∀ ρ, Lc (mas ρ)) (hf : MForm X o m es apos cpos) (hne : ne = true → es ≠ []) :
    Wx X (.Call (.Attribute o m apos) es [] cpos) (fun ρ => T.bind (ma ρ) fun w => match newOf w, decide (m ∈ muts) with
    | some u, true => lend u fun w => T.bind (kindT (hd τ.pg q n) m ne w) fun k => T.bind (mas ρ) fun ws => eMet (hd τ.pg q n) w m k ws
    | _, _ => T.bind (fin w) fun w => T.bind (kindT (hd τ.pg q n) m ne w) fun k => T.bind (mas ρ) fun ws => eMet (hd τ.pg q n) w m k ws) := by
  refine ⟨fun pins s σ H R I ht => ?_⟩
  obtain ⟨μ, ρ, F, G, r, G', A, hx, fe, k⟩ := ht
  refine mcall hf (thn (ho.go I A (lo ρ) hx fe) fun u1 s1 ⟨v1, H1, I1, r1, w, G1, F1, h1, h2, h3, l1, h4, h5⟩ => fun pl => ?_)
  have f : Fn' X σ μ F1 G' r R := ⟨h4, fun w e F' H' v e1 rp i => k w e F' H' (h2.trans e1) rp v i⟩
  have stay : (T.bind (kindT (hd τ.pg q n) m ne w.frz) fun k => T.bind (mas ρ) fun ws => eMet (hd τ.pg q n) w.frz m k ws) G1 = some (r, G') → wpAny (model X.prog X.w) X.A (getMethod u1 m pl) (fun fx s₂ => wpAny (model X.prog X.w) X.A (callWith cpos fx.1 fx.2 (backTo cpos (starEach es X.env)) (backToKw cpos (keywordEach [] X.env))) (EP X pins σ R) X.xe s₂) X.xe s1 := fun hx => by
    obtain ⟨F2, H2, I2, e2, r2, i2⟩ := frz_w I1 h3.rep h5
    exact met_core gd ha la hf.pl hne I2 (h3.on e2 r2 rfl) i2 (frz_ne w) r1 hx (f.mono e2) pl
  cases hw : newOf w with
  | none =>
    rw [hw] at h1
    exact stay h1
  | some u =>
   cases hmm : decide (m ∈ muts) with
   | false =>
    rw [hw, hmm] at h1
    exact stay h1
   | true =>
    rw [hw, hmm] at h1
    have h1 : lend u (fun w => T.bind (kindT (hd τ.pg q n) m ne w) fun k => T.bind (mas ρ) fun ws => eMet (hd τ.pg q n) w m k ws) G1 = some (r, G') := h1
    cases w with
    | n u0 =>
      cases hw
      obtain ⟨a, rfl, q1, q2, q3⟩ := (show ∃ a, v1 = .ref a ∧ F1 a = none ∧ (∀ l, l < G1.length → μ l ≠ a) ∧ Ob X.K F1 H1 a u from h5)
      have back : ∀ l, l < G1.length → (fun l => if l = G1.length then a else μ l) l = μ l := fun l hl => by
        show (if l = G1.length then _ else _) = _
        rw [if_neg (by omega)]
      have rp := h3.rep.push q1 q2 q3
      have env : EnvOk X (fun l => if l = G1.length then a else μ l) F1 (G1 ++ [u]) ρ σ := h3.env.push
      have iw : IsW X (fun l => if l = G1.length then a else μ l) F1 (G1 ++ [u]) H1 (.r G1.length) (.ref a) := by
        refine ⟨by rw [List.length_append, List.length_singleton]; omega, ?_⟩
        show V.ref a = .ref (if G1.length = G1.length then a else _)
        rw [if_pos rfl]
      obtain ⟨G2, e1, rfl, hw2⟩ := lend_ok h1
      refine met_core gd ha la hf.pl hne I1 ⟨env, rp⟩ iw (fun u z => by cases z) r1 e1 ⟨fun er' e => ?_, fun w' e F' H' v' ex rp' i => ?_⟩ pl
      · obtain ⟨W, tk, hW⟩ := f.e er' e
        exact ⟨W, tk, fun F' H' cls d ex rp' ie => hW F' H' cls d ex (rp'.take back) ie⟩
      · obtain ⟨v, rfl⟩ := hw2 w' e
        exact f.k _ e F' H' v' ex (rp'.take back) i
    | d _ => cases hw
    | r _ => cases hw
    | ex _ => cases hw
end
end L4

set_option Elab.async false
set_option linter.all false
set_option maxRecDepth 100000
set_option maxHeartbeats 4000000
/-! Subscripts, slices, displays. -/
namespace L4
open PySem PySem.Spec PyProof.Rows L2
section
variable {X : Cx} {σ : L2.St} {H : Hp} {μ : Nat → Addr} {ρ : Env} {F F1 : Hp} {G G1 G' : Cs} {e a b c o : Expr} {es : List Expr} {ma mb mc : Env → T Rv} {mas : Env → T (List Rv)} {pins : List (Addr × Obj)} {s : Shared} {τ : Tb} {q : Bool} {n : Nat} {pos p p2 apos cpos : Pos} {r : Except Err Rv} {R : VK} {x f m : Str}
/-- a list, a script among them, seen -/
theorem sees_lst {K : PySem.W.Frag} {ds : List D} {v : V} (h : Sees K F H (.lst ds) v) : ∃ a vs, v = .ref a ∧ SqL K H a vs ∧ IsL K F ds vs := by
  obtain ⟨a, vs, h1, h2, h3⟩ := h
  exact ⟨a, vs, h1, .of h2, h3⟩
theorem isL_ints {K : PySem.W.Frag} {F : Hp} : ∀ (ns : List Int), IsL K F (ns.map D.int) (ns.map V.int)
  | [] => IsL.nil
  | _ :: ns => .cons rfl (isL_ints ns)
theorem sees_scr {K : PySem.W.Frag} (e : Ex F H) {ns : List Int} {v : V} (h : Sees K F H (.scr ns) v) : ∃ a, v = .ref a ∧ SqL K H a (ns.map V.int) ∧ IsL K F (ns.map D.int) (ns.map V.int) := by
  obtain ⟨a, h1, h2⟩ := (show ∃ a, v = .ref a ∧ SqL K F a (ns.map V.int) from h)
  exact ⟨a, h1, sqL_mono e h2, isL_ints ns⟩
theorem sees_tup {K : PySem.W.Frag} (e : Ex F H) {ds : List D} {v : V} (h : Sees K F H (.tup ds) v) : ∃ a vs, v = .ref a ∧ F a = some (.tup vs) ∧ SqT K H a vs ∧ IsL K F ds vs := by
  obtain ⟨a, vs, h1, h2, h3⟩ := (show ∃ a vs, v = .ref a ∧ F a = some (.tup vs) ∧ IsL K F ds vs from h)
  exact ⟨a, vs, h1, h2, .of (e _ _ h2), h3⟩
theorem isL_len {K : PySem.W.Frag} {ds : List D} {vs : List V} (h : IsL K F ds vs) : ds.length = vs.length := h.length.symm
theorem atI_is {K : PySem.W.Frag} {ds : List D} {vs : List V} {i : Int} {d : D} (h : IsL K F ds vs) (e : atI ds i = some d) : ∃ v, atI vs i = some v ∧ Is K F d v := by
  obtain ⟨j, h1, h2⟩ := atI_ix e
  obtain ⟨v, h3, h4⟩ := h.get h2
  refine ⟨v, ?_, h4⟩
  unfold atI
  rw [h.length, h1]
  exact h3
theorem finD_ok {w : Rv} {d : D} {G G' : Cs} (h : finD w G = some (.ok d, G')) : w.frz = .d d ∧ G' = G := by
  cases w <;> first | (cases h; exact ⟨rfl, rfl⟩) | (cases h; done)
theorem finD_no {w : Rv} {e : Err} {G G' : Cs} (h : finD w G = some (.error e, G')) : False := by
  cases w <;> cases h
/-- a datum is wanted -/
theorem tE_goD {β : Type} {m : Env → T Rv} {k : D → T β} {r : Except Err β} {R : VK} (A : At X σ H μ ρ F G) (lm : ∀ ρ, Lc (m ρ)) (he : Wx X e m) (hx : T.bind (T.bind (m ρ) finD) k G = some (r, G')) (fe : FinE X σ μ F G' r)
    (next : ∀ d G1 F1 H1 v, k d G1 = some (r, G') → Ex F F1 → At X σ H1 μ ρ F1 G1 → G1.length = G.length → FinE X σ μ F1 G' r → Is X.K F1 d v → R v H1) : tE X (fun ρ => T.bind (m ρ) fin) σ H R := by
  have hx2 : T.bind (T.bind (m ρ) fin) (fun w => T.bind (finD w) k) G = some (r, G') := by
    rw [T.bind_assoc] at hx ⊢
    have : (fun x => T.bind (fin x) fun w => T.bind (finD w) k) = fun x => T.bind (finD x) k := by
      funext x G
      cases x <;> rfl
    rw [this]
    exact hx
  refine tE_go (m := fun ρ => T.bind (m ρ) fin) A (.bind (lm ρ) Lc.fin) hx2 fe fun w G1 F1 H1 v h0 h1 h2 h3 hl h4 h5 => ?_
  rcases T.bind_ok h1 with ⟨er, h6, _⟩ | ⟨d, G2, h6, h7⟩
  · exact (finD_no h6).elim
  · obtain ⟨e1, rfl⟩ := finD_ok h6
    cases w with
    | d u => cases e1; exact next _ _ _ _ _ h7 h2 h3 hl h4 h5
    | r l => cases e1
    | n u => exact absurd rfl (fin_eq h0 u)
    | ex er => cases e1
/-- .. as a fact -/
theorem Wx.goD {β : Type} {k : D → T β} {r : Except Err β} (h : Wx X e ma) (lm : ∀ ρ, Lc (ma ρ)) (I : Inv X pins σ H s) (A : At X σ H μ ρ F G) (hx : T.bind (T.bind (ma ρ) finD) k G = some (r, G')) (fe : FinE X σ μ F G' r) :
    wpAny (model X.prog X.w) X.A (eval e X.env) (EP X pins σ fun v H1 => ∃ d G1 F1, k d G1 = some (r, G') ∧ Ex F F1 ∧ At X σ H1 μ ρ F1 G1 ∧ G1.length = G.length ∧ FinE X σ μ F1 G' r ∧ Is X.K F1 d v) X.xe s :=
  (h.frz lm).run pins s σ H _ I (tE_goD A lm h hx fe fun d G1 F1 H1 v h1 h2 h3 hl h4 h5 => ⟨d, G1, F1, h1, h2, h3, hl, h4, h5⟩)

/-! ### subscripts -/
/-- a dict at a key -/
def rIxG : R2 := fun x y H Q => ∃ a v, x = .ref a ∧ DG H a y (some v) ∧ Q v H
theorem dg_rd {H : Hp} {a : Addr} {y : V} {v : V} (g : DG H a y (some v)) : (∃ kvs, Rd H a (.dK kvs)) ∨ ∃ kvs, Rd H a (.dT kvs) := by
  rcases g with (⟨kvs, _, h, _⟩ | ⟨kvs, _, _, h, _⟩) | ⟨_, _, z⟩
  · exact .inl ⟨kvs, h⟩
  · exact .inr ⟨kvs, h⟩
  · cases z
theorem ix_dg (hu : X.A.units + 1 < cLine) : IxR X rIxG := by
  intro value slice pins s σ H x y v u Q I rx ry h hs
  obtain ⟨a, w, rfl, g, q⟩ := h
  cases (show v = Value.ref a from rx)
  obtain ⟨t1, t2, _⟩ := isD_at I (dg_rd g)
  exact tail_any t1 slot_dict_getitem.lookup (dg_getItem hu I g ry fun w' s' I' rw' => ⟨w, H, I', rw', q⟩) hs
/-- o[i] -/
theorem wx_ix (gd : Good τ q n X) (ho : Wx X o ma) (hi : Wx X a mb) (lo : ∀ ρ, Lc (ma ρ)) (li : ∀ ρ, Lc (mb ρ)) (hs : PlainIx a) :
    Wx X (.Subscript o a pos) (fun ρ => T.bind (T.bind (ma ρ) fin) fun w => T.bind (T.bind (mb ρ) finD) fun k => fun G => match (see G w).bind (fun u => ixD u k) with
    | some v => some (.ok (.d v), G)
    | none => none) := by
  refine ⟨fun pins s σ H R I ht => ?_⟩
  obtain ⟨μ, ρ, F, G, r, G', A, hx, fe, k⟩ := ht
  have hu : X.A.units + 1 < cLine := by have := gd.hr.un; omega
  refine (pe_ix (ix_seq.or (ix_dg hu)) (ho.frz lo) (hi.frz li) hs).run pins s σ H R I ?_
  refine tE_go (m := fun ρ => T.bind (ma ρ) fin) A (.bind (lo ρ) Lc.fin) hx fe fun w G1 F1 H1 v h0 h1 h2 h3 hl h4 h5 => ?_
  refine tE_goD h3 li hi h1 h4 fun d G2 F2 H2 v2 k1 k2 k3 kl k4 k5 => ?_
  have iw := h5.mono (H' := H2) (fin_eq h0) k2 (Nat.le_of_eq kl.symm)
  split at k1
  · rename_i z hz
    cases k1
    obtain ⟨u, hu1, hz⟩ := Option.bind_eq_some_iff.mp hz
    have su := iw.sees k3.rep hu1
    have done : ∀ z', Is X.K F2 z z' → R z' H2 := fun z' i => k _ rfl F2 H2 (h2.trans k2) k3.rep z' i
    have dict : (dget u d).bind id = some z → rIxG v v2 H2 R := fun hz => by
      obtain ⟨o1, h6, h7⟩ := Option.bind_eq_some_iff.mp hz
      have h7 : o1 = some z := h7
      subst h7
      obtain ⟨a, w', h8, h9, h10⟩ := dget_ok k3.rep.sub (Is.sees k3.rep.sub k5) su h6
      cases w' with
      | none => exact h10.elim
      | some w' => exact ⟨a, w', h8, h9, done _ h10⟩
    unfold ixD at hz
    split at hz
    · obtain ⟨a, vs, e1, e2, e3⟩ := sees_lst su
      obtain ⟨v', e4, e5⟩ := atI_is e3 hz
      exact .inl (.inl ⟨a, vs, _, v', e1, k5, e2, e4, done _ e5⟩)
    · obtain ⟨a, vs, e1, _, e2, e3⟩ := sees_tup k3.rep.sub su
      obtain ⟨v', e4, e5⟩ := atI_is e3 hz
      exact .inl (.inr (.inl ⟨a, vs, _, v', e1, k5, e2, e4, done _ e5⟩))
    · obtain ⟨a, e1, e2, e3⟩ := sees_scr k3.rep.sub su
      rename_i ns i _
      obtain ⟨j, h6, rfl⟩ := Option.map_eq_some_iff.mp hz
      have : atI (ns.map V.int) i = some (V.int j) := by
        obtain ⟨t, h7, h8⟩ := atI_ix h6
        unfold atI
        rw [List.length_map, h7]
        simp [h8]
      exact .inl (.inl ⟨a, _, _, _, e1, k5, e2, this, done _ rfl⟩)
    · rename_i x i _
      obtain ⟨h5, hz⟩ := askO_ok hz
      obtain ⟨c, h6, rfl⟩ := Option.map_eq_some_iff.mp hz
      exact .inl (.inr (.inr ⟨x, i, c, su, k5, line_ok (of_decide_eq_true h5), h6, done _ rfl⟩))
    · exact .inr (dict hz)
  · cases k1
end
end L4

set_option Elab.async false
set_option linter.all false
set_option maxRecDepth 100000
set_option maxHeartbeats 4000000
/-! Slices, displays. -/
namespace L4
open PySem PySem.Spec PyProof.Rows L2
section
variable {X : Cx} {σ : L2.St} {H : Hp} {μ : Nat → Addr} {ρ : Env} {F F1 : Hp} {G G1 G' : Cs} {e a b c o : Expr} {es : List Expr} {ma mb mc : Env → T Rv} {mas : Env → T (List Rv)} {pins : List (Addr × Obj)} {s : Shared} {τ : Tb} {q : Bool} {n : Nat} {pos p p2 p3 apos cpos : Pos} {r : Except Err Rv} {R : VK} {x f m : Str}
def tO (X : Cx) (m : Env → T (Option Int)) : TO := fun σ H R => tM X m σ H fun μ F' G' H' o => R o H'
abbrev WxO (X : Cx) (e : Option Expr) (m : Env → T (Option Int)) : Prop := PO X e (tO X m)
theorem wxo_none : WxO X none (fun _ => T.pure none) := by
  refine ⟨fun pins s σ H R I ht => ?_⟩
  obtain ⟨μ, ρ, F, G, r, G', A, hx, fe, k⟩ := ht
  cases hx
  exact po_none.run pins s σ H R I (k _ rfl F H (Ex.refl F) A.rep)
theorem wxo_some (h : Wx X e ma) (la : ∀ ρ, Lc (ma ρ)) : WxO X (some e) (fun ρ => T.bind (T.bind (ma ρ) asI) fun i => T.pure (some i)) := by
  refine ⟨fun pins s σ H R I ht => ?_⟩
  obtain ⟨μ, ρ, F, G, r, G', A, hx, fe, k⟩ := ht
  refine (po_some h).run pins s σ H R I (tE_goI A (la ρ) hx fe fun i G1 F1 H1 h1 h2 h3 h4 => ?_)
  cases h1
  exact ⟨i, rfl, k _ rfl F1 H1 h2 h3.rep⟩
theorem cutV_is {K : PySem.W.Frag} {ds : List D} {vs : List V} {lo hi : Option Int} (h : IsL K F ds vs) : IsL K F (cutL ds lo hi) (cutV vs lo hi) := by
  unfold cutL cutV
  rw [h.length]
  exact IsL.take _ (IsL.drop _ h)
/-- o[lo:hi] -/
theorem wx_slc {el eh : Option Expr} {ml mh : Env → T (Option Int)} (ho : Wx X o ma) (hl : WxO X el ml) (hh : WxO X eh mh) (lo : ∀ ρ, Lc (ma ρ)) (ll : ∀ ρ, Lc (ml ρ)) (lh : ∀ ρ, Lc (mh ρ)) :
    Wx X (.Subscript o (.Slice el eh none p2) pos) (fun ρ => T.bind (T.bind (ma ρ) fin) fun w => T.bind (ml ρ) fun l => T.bind (mh ρ) fun r => fun G => match (see G w).bind (fun u => slD u l r) with
    | some v => some (.ok v, G)
    | none => none) := by
  refine ⟨fun pins s σ H R I ht => ?_⟩
  obtain ⟨μ, ρ, F, G, r, G', A, hx, fe, k⟩ := ht
  refine (pe_slice (sl_list.or (sl_tupA.or sl_str)) (ho.frz lo) hl hh).run pins s σ H R I ?_
  refine tE_go (m := fun ρ => T.bind (ma ρ) fin) A (.bind (lo ρ) Lc.fin) hx fe fun w G1 F1 H1 v h0 h1 h2 h3 hl h4 h5 => ?_
  refine tM_go h3 (ll ρ) h1 h4 fun l G2 F2 H2 _ k1 k2 k3 kl k4 => ?_
  refine tM_go k3 (lh ρ) k1 k4 fun u G3 F3 H3 _ j1 j2 j3 jl j4 => ?_
  have iw := h5.mono (H' := H3) (fin_eq h0) (k2.trans j2) (Nat.le_of_eq (jl.trans kl).symm)
  split at j1
  · rename_i z hz
    cases j1
    obtain ⟨d, hd, hz⟩ := Option.bind_eq_some_iff.mp hz
    have su := iw.sees j3.rep hd
    have e3 := h2.trans (k2.trans j2)
    have fn : Fn' X σ μ F3 G' (.ok z) R := ⟨FinE.ok, fun w' e F' H' v e1 rp i => k w' e F' H' (e3.trans e1) rp v i⟩
    unfold slD at hz
    split at hz
    · cases hz
      obtain ⟨a, vs, e1, e2, e4⟩ := sees_lst su
      exact .inl ⟨a, vs, e1, e2, fun p np => fn.new j3.rep rfl np ⟨_, upd_same, (cutV_is e4)⟩⟩
    · cases hz
      obtain ⟨a, e1, e2, e4⟩ := sees_scr j3.rep.sub su
      exact .inl ⟨a, _, e1, e2, fun p np => fn.new j3.rep rfl np ⟨_, upd_same, (cutV_is e4)⟩⟩
    · cases hz
      obtain ⟨a, vs, e1, eF, e2, e4⟩ := sees_tup j3.rep.sub su
      refine .inr (.inl ⟨a, vs, e1, e2, fun hw => ?_, fun hw p np => ?_⟩)
      · refine fn.dat j3.rep rfl ⟨a, vs, rfl, eF, ?_⟩
        have : cutV vs l u = vs := by
          unfold cutV
          rw [hw.1, hw.2, Nat.sub_zero, List.drop_zero, List.take_length]
        have q := cutV_is (lo := l) (hi := u) e4
        rw [this] at q
        exact q
      · exact fn.newF j3.rep rfl np ⟨p, _, rfl, upd_same, IsL.mono (Ex.new (j3.rep.sub.none np)) (cutV_is e4)⟩
    · obtain ⟨h5, hz⟩ := askO_ok hz
      cases hz
      rename_i x _ _ _
      exact .inr (.inr ⟨_, su, line_ok (of_decide_eq_true h5), fn.dat j3.rep rfl rfl⟩)
    · cases hz
  · cases j1
/-- o[::-1] -/
theorem wx_rev {k : Nat} (ho : Wx X o ma) (lo : ∀ ρ, Lc (ma ρ)) :
    Wx X (.Subscript o (.Slice none none (some (.UnaryOp .USub (.Constant (.int 1) k p) p2)) p3) pos) (fun ρ => T.bind (T.bind (ma ρ) fin) fun w => fun G => match see G w with
    | some (.lst xs) => some (.ok (.n (.lst xs.reverse)), G)
    | _ => none) := by
  refine ⟨fun pins s σ H R I ht => ?_⟩
  obtain ⟨μ, ρ, F, G, r, G', A, hx, fe, k⟩ := ht
  refine (pe_revL (ho.frz lo)).run pins s σ H R I ?_
  refine tE_go (m := fun ρ => T.bind (ma ρ) fin) A (.bind (lo ρ) Lc.fin) hx fe fun w G1 F1 H1 v h0 h1 h2 h3 hl h4 h5 => ?_
  split at h1
  · rename_i xs hd
    cases h1
    obtain ⟨a, vs, e1, e2, e4⟩ := sees_lst (h5.sees h3.rep hd)
    have fn : Fn' X σ μ F1 G' (.ok (.n (.lst xs.reverse))) R := ⟨FinE.ok, fun w' e F' H' v e1 rp i => k w' e F' H' (h2.trans e1) rp v i⟩
    exact ⟨a, vs, e1, e2, fun p np => fn.new h3.rep rfl np ⟨_, upd_same, e4.reverse⟩⟩
  · cases h1

/-! ### displays -/
/-- the items of a display, data that stay -/
def tD (X : Cx) (m : Env → T (List D)) : TA := fun σ H R => tM X m σ H fun μ F' G' H' ds => ∀ vs, IsL X.K F' ds vs → R vs H'
abbrev WxD (X : Cx) (es : List Expr) (m : Env → T (List D)) : Prop := PA X es (tD X m)
theorem wxd_nil : WxD X [] (fun _ => T.pure []) := by
  refine ⟨fun pos pins s σ H R I ht => ?_⟩
  obtain ⟨μ, ρ, F, G, r, G', A, hx, fe, k⟩ := ht
  cases hx
  exact pa_nil.run pos pins s σ H R I (k _ rfl F H (Ex.refl F) A.rep [] IsL.nil)
theorem wxd_cons {mds : Env → T (List D)} (ha : Wx X e ma) (hr : WxD X es mds) (la : ∀ ρ, Lc (ma ρ)) (lr : ∀ ρ, Lc (mds ρ)) (hs : starEach (e :: es) X.env = (false, eval e X.env) :: starEach es X.env) :
    WxD X (e :: es) (fun ρ => T.bind (T.bind (ma ρ) finD) fun w => T.bind (mds ρ) fun ws => T.pure (w :: ws)) := by
  refine ⟨fun pos pins s σ H R I ht => ?_⟩
  obtain ⟨μ, ρ, F, G, r, G', A, hx, fe, k⟩ := ht
  refine (pa_cons (ha.frz la) hr hs).run pos pins s σ H R I (tE_goD A la ha hx fe fun d G1 F1 H1 v h1 h2 h3 hl h4 h5 => ?_)
  refine tM_go h3 (lr ρ) h1 h4 fun ds G2 F2 H2 _ k1 k2 k3 kl k4 vs i => ?_
  cases k1
  exact k _ rfl F2 H2 (h2.trans k2) k3.rep _ (.cons (h5.mono k2) i)
/-- (a, ..) -/
theorem wx_tup {mds : Env → T (List D)} {x1} (h : WxD X es mds) (lm : ∀ ρ, Lc (mds ρ)) : Wx X (.Tuple es x1 pos) (fun ρ => T.bind (mds ρ) fun us => T.ask (decide (us.length ≤ line)) (T.pure (.d (.tup us)))) := by
  refine ⟨fun pins s σ H R I ht => ?_⟩
  obtain ⟨μ, ρ, F, G, r, G', A, hx, fe, k⟩ := ht
  refine (pe_tup h).run pins s σ H R I (tM_go A (lm ρ) hx fe fun ds G1 F1 H1 _ h1 h2 h3 hl h4 vs i => ?_)
  obtain ⟨c, h1⟩ := T.ask_ok h1
  cases h1
  refine ⟨line_ok (by rw [i.length]; exact of_decide_eq_true c), fun p np => ?_⟩
  exact k _ rfl _ _ (h2.trans (Ex.new (h3.rep.sub.none np))) (h3.rep.newF np) _ ⟨p, vs, rfl, upd_same, IsL.mono (Ex.new (h3.rep.sub.none np)) i⟩
/-- [a, ..] -/
theorem wx_lst {mds : Env → T (List D)} (h : WxD X es mds) (lm : ∀ ρ, Lc (mds ρ)) : Wx X (.List es pos) (fun ρ => T.bind (mds ρ) fun us => T.ask (decide (us.length ≤ line)) (T.pure (.n (.lst us)))) := by
  refine ⟨fun pins s σ H R I ht => ?_⟩
  obtain ⟨μ, ρ, F, G, r, G', A, hx, fe, k⟩ := ht
  refine (pe_lst h).run pins s σ H R I (tM_go A (lm ρ) hx fe fun ds G1 F1 H1 _ h1 h2 h3 hl h4 vs i => ?_)
  obtain ⟨c, h1⟩ := T.ask_ok h1
  cases h1
  refine ⟨line_ok (by rw [i.length]; exact of_decide_eq_true c), fun p np => ?_⟩
  exact k _ rfl _ _ h2 (h3.rep.new np) _ ⟨p, rfl, h3.rep.sub.none np, h3.rep.off np, ⟨vs, upd_same, i⟩⟩
end
end L4

set_option Elab.async false
set_option linter.all false
set_option maxRecDepth 100000
set_option maxHeartbeats 4000000
/-! What is walked. -/
namespace L4
open PySem PySem.Spec PyProof.Rows L2
def lkOf (w : Rv) (u : D) : Lk := match w with
  | .r l => [(l, u)]
  | _ => []
/-- J walks these items as long as the cells that are walked stay -/
structure Wk (K : PySem.W.Frag) (μ : Nat → Addr) (F : Hp) (xs : List D) (lk : Lk) (J : L2.It) : Prop where
  go : ∀ i (μ2 : Nat → Addr) F2 G2 H2, i < xs.length → (∀ p ∈ lk, μ2 p.1 = μ p.1) → Ex F F2 → Rep K μ2 F2 G2 H2 → heldB lk G2 = true → J.go i H2
  stop : ∀ i (μ2 : Nat → Addr) F2 G2 H2, xs.length ≤ i → (∀ p ∈ lk, μ2 p.1 = μ p.1) → Ex F F2 → Rep K μ2 F2 G2 H2 → heldB lk G2 = true → J.stop i H2
  yld : ∀ i x (μ2 : Nat → Addr) F2 G2 H2 v H3, xs[i]? = some x → (∀ p ∈ lk, μ2 p.1 = μ p.1) → Ex F F2 → Rep K μ2 F2 G2 H2 → heldB lk G2 = true → J.yld i H2 v H3 → ∃ F3, Ex F2 F3 ∧ Rep K μ2 F3 G2 H3 ∧ Is K F3 x v
/-- a thing that is walked stands -/
def Src (K : PySem.W.Frag) (μ : Nat → Addr) (F : Hp) (u : D) (lk : Lk) (v : V) : Prop :=
  ∀ (μ2 : Nat → Addr) F2 G2 H2, (∀ p ∈ lk, μ2 p.1 = μ p.1) → Ex F F2 → Rep K μ2 F2 G2 H2 → heldB lk G2 = true → Sees K F2 H2 u v
def tI (X : Cx) (m : Env → T (List D × Lk)) : TI := fun σ H R => tM X m σ H fun μ F' G' H' p => ∀ J, Wk X.K μ F' p.1 p.2 J → (∀ c ∈ p.2, c.1 < G'.length) → R J H'
abbrev Wi (X : Cx) (tg e : Expr) (m : Env → T (List D × Lk)) : Prop := PI X tg e (tI X m)
theorem heldB_cons {l : Nat} {u : D} {lk : Lk} {G : Cs} (h : heldB ((l, u) :: lk) G = true) : G[l]? = some u ∧ heldB lk G = true := by
  unfold heldB at h
  rw [List.all_cons, Bool.and_eq_true] at h
  refine ⟨?_, h.2⟩
  have h1 := h.1
  dsimp only at h1
  split at h1
  · rename_i u' e
    rw [e, D.same_eq h1]
  · cases h1
theorem heldB_app {a b : Lk} {G : Cs} (h : heldB (a ++ b) G = true) : heldB a G = true ∧ heldB b G = true := by
  unfold heldB at h ⊢
  rw [List.all_append, Bool.and_eq_true] at h
  exact h
section
variable {X : Cx} {σ : L2.St} {H : Hp} {μ : Nat → Addr} {ρ : Env} {F F1 : Hp} {G G1 G' : Cs} {e a b c o : Expr} {es : List Expr} {ma mb mc : Env → T Rv} {mas : Env → T (List Rv)} {pins : List (Addr × Obj)} {s : Shared} {τ : Tb} {q : Bool} {n : Nat} {pos p p2 p3 apos cpos : Pos} {r : Except Err Rv} {x f m : Str} {tg : Expr} {R : L2.It → Hp → Prop} {K : PySem.W.Frag}
theorem it_list {a : Addr} {vs : List V} (I : Inv X pins σ H s) (hq : SqL X.K H a vs) (q : R (Itl X.K a) H) : wpAny (model X.prog X.w) X.A (pyIter (.ref a)) (PIE X pins σ tg R) X.xe s := by
  obtain ⟨its, rv, p, hz⟩ := I.list hq
  refine wpAny_pyIter_list p.isList ?_
  refine ⟨s.heap.objs.size, [s.heap.objs.size], _, _, H, rfl, I.kept (t' := s.toks) fun b o e => Heap.get?_push_of_some _ e, turn_list a _, ⟨_, Heap.get?_push_size _ rfl, rfl, rfl⟩, fun b hb => ?_, q⟩
  have e : b = s.heap.objs.size := by simpa using hb
  subst e
  exact I.fpOk (Nat.le_refl _) (I.hok.fresh (Nat.le_refl _))
theorem it_tup {a : Addr} {vs : List V} (I : Inv X pins σ H s) (hq : SqT X.K H a vs) (q : R (Itt X.K a) H) : wpAny (model X.prog X.w) X.A (pyIter (.ref a)) (PIE X pins σ tg R) X.xe s := by
  obtain ⟨its, rv, p, hz⟩ := I.tuple hq
  refine wpAny_pyIter_tuple (show s.heap.IsTuple a its.toArray from p) ?_
  refine ⟨s.heap.objs.size, [s.heap.objs.size], _, _, H, rfl, I.kept (t' := s.toks) fun b o e => Heap.get?_push_of_some _ e, turn_tuple a _, ⟨_, Heap.get?_push_size _ rfl, rfl, rfl⟩, fun b hb => ?_, q⟩
  have e : b = s.heap.objs.size := by simpa using hb
  subst e
  exact I.fpOk (Nat.le_refl _) (I.hok.fresh (Nat.le_refl _))
theorem it_str {x : Str} {u : Value} (I : Inv X pins σ H s) (r : RelV (.str x) u) (q : R (Its x) H) : wpAny (model X.prog X.w) X.A (pyIter u) (PIE X pins σ tg R) X.xe s := by
  obtain ⟨t, rfl⟩ := r
  cases ha : x.cps.all (· < 128)
  · exact wpAny_pyIter_wide ha (pi_one (tk := s.toks) I _ (turn_str _ x t "str_iterator" (.inr rfl)) ⟨_, Heap.get?_push_size _ rfl, rfl, rfl⟩ q)
  · exact wpAny_pyIter_ascii ha (pi_one (tk := s.toks) I _ (turn_str _ x t "str_ascii_iterator" (.inl rfl)) ⟨_, Heap.get?_push_size _ rfl, rfl, rfl⟩ q)
theorem it_keys {d : Addr} {o : Obj} {kvs : List (Key × V)} (I : Inv X pins σ H s) (hd : H d = some (.frz o (.dK kvs))) (q : R (Itk d o kvs) H) : wpAny (model X.prog X.w) X.A (pyIter (.ref d)) (PIE X pins σ tg R) X.xe s := by
  obtain ⟨hs, hgd, hx, es, ep, vs, hdt, hsz, kv, hm⟩ := I.frzK hd
  refine iter_keys hs hgd hx hdt (pi_one (tk := s.toks) I _ (turn_keys _ hdt) ⟨_, Heap.get?_push_size _ rfl, rfl, ?_⟩ q)
  rw [hsz] <;> rfl
theorem it_keysT {d : Addr} {o : Obj} {kvs : List (List Key × V)} (I : Inv X pins σ H s) (hd : H d = some (.frz o (.dT kvs))) (q : R (Itkt d o kvs) H) : wpAny (model X.prog X.w) X.A (pyIter (.ref d)) (PIE X pins σ tg R) X.xe s := by
  obtain ⟨hs, hgd, hx, es, ep, hdt, hsz, ent⟩ := I.frzT hd
  refine iter_keys hs hgd hx hdt (pi_one (tk := s.toks) I _ (turn_keysT _ hdt) ⟨_, Heap.get?_push_size _ rfl, rfl, ?_⟩ q)
  rw [hsz] <;> rfl

/-! ### the turns -/
theorem src_at {u : D} {xs : List D} {lk : Lk} {a : Addr} (hu : itemsL u = some xs) (h : Src K μ F u lk (.ref a)) : ∀ (μ2 : Nat → Addr) F2 G2 H2, (∀ p ∈ lk, μ2 p.1 = μ p.1) → Ex F F2 → Rep K μ2 F2 G2 H2 → heldB lk G2 = true → ∃ vs, SqL K H2 a vs ∧ IsL K F2 xs vs := fun μ2 F2 G2 H2 h1 h2 h3 h4 => by
  have q := h μ2 F2 G2 H2 h1 h2 h3 h4
  unfold itemsL at hu
  split at hu
  · cases hu
    obtain ⟨a', vs, e1, e2, e3⟩ := sees_lst q
    cases e1
    exact ⟨vs, e2, e3⟩
  · cases hu
    obtain ⟨a', e1, e2, e3⟩ := sees_scr h3.sub q
    cases e1
    exact ⟨_, e2, e3⟩
  · cases hu
theorem wk_list {u : D} {xs : List D} {lk : Lk} {a : Addr} (hu : itemsL u = some xs) (h : Src K μ F u lk (.ref a)) : Wk K μ F xs lk (Itl K a) := by
  have at_ := src_at hu h
  refine ⟨fun i μ2 F2 G2 H2 hi h1 h2 h3 h4 => ?_, fun i μ2 F2 G2 H2 hi h1 h2 h3 h4 => ?_, fun i x μ2 F2 G2 H2 v H3 hx h1 h2 h3 h4 y => ?_⟩
  · obtain ⟨vs, q1, q2⟩ := at_ μ2 F2 G2 H2 h1 h2 h3 h4
    obtain ⟨v, e, _⟩ := q2.get (List.getElem?_eq_getElem hi)
    exact ⟨vs, v, q1, e⟩
  · obtain ⟨vs, q1, q2⟩ := at_ μ2 F2 G2 H2 h1 h2 h3 h4
    exact ⟨vs, q1, by rw [q2.length]; exact hi⟩
  · obtain ⟨vs, q1, q2⟩ := at_ μ2 F2 G2 H2 h1 h2 h3 h4
    obtain ⟨v', e, iv⟩ := q2.get hx
    obtain ⟨rfl, y⟩ := y
    have := y vs q1
    rw [e] at this
    cases this
    exact ⟨F2, Ex.refl _, h3, iv⟩
theorem wk_tup {xs : List D} {a : Addr} {vs : List V} (hF : F a = some (.tup vs)) (hi : IsL K F xs vs) : Wk K μ F xs [] (Itt K a) := by
  have at_ : ∀ (μ2 : Nat → Addr) F2 G2 H2, Ex F F2 → Rep K μ2 F2 G2 H2 → SqT K H2 a vs := fun μ2 F2 G2 H2 h2 h3 => .of (h3.sub _ _ (h2 _ _ hF))
  refine ⟨fun i μ2 F2 G2 H2 hj h1 h2 h3 h4 => ?_, fun i μ2 F2 G2 H2 hj h1 h2 h3 h4 => ?_, fun i x μ2 F2 G2 H2 v H3 hx h1 h2 h3 h4 y => ?_⟩
  · obtain ⟨v, e, _⟩ := hi.get (List.getElem?_eq_getElem hj)
    exact ⟨vs, v, at_ _ _ _ _ h2 h3, e⟩
  · exact ⟨vs, at_ _ _ _ _ h2 h3, by rw [hi.length]; exact hj⟩
  · obtain ⟨v', e, iv⟩ := hi.get hx
    obtain ⟨rfl, y⟩ := y
    have := y vs (at_ _ _ _ _ h2 h3)
    rw [e] at this
    cases this
    exact ⟨F2, Ex.refl _, h3, iv.mono h2⟩
theorem wk_range {lo : Int} {k : Nat} : Wk K μ F (rangeD lo k) [] (Itr lo k) := by
  have hl : (rangeD lo k).length = k := by unfold rangeD; rw [List.length_map, List.length_range]
  refine ⟨fun i μ2 F2 G2 H2 hj h1 h2 h3 h4 => ?_, fun i μ2 F2 G2 H2 hj h1 h2 h3 h4 => ?_, fun i x μ2 F2 G2 H2 v H3 hx h1 h2 h3 h4 y => ?_⟩
  · rw [hl] at hj; exact hj
  · rw [hl] at hj; exact hj
  · obtain ⟨rfl, rfl⟩ := y
    unfold rangeD at hx
    rw [List.getElem?_map] at hx
    obtain ⟨j, e, rfl⟩ := Option.map_eq_some_iff.mp hx
    have hi : i < k := by
      have := (List.getElem?_eq_some_iff.mp e).1
      rwa [List.length_range] at this
    rw [List.getElem?_range hi] at e
    cases e
    exact ⟨F2, Ex.refl _, h3, rfl⟩
theorem wk_str {x : Str} : Wk K μ F (x.cps.toList.map fun c => D.str ⟨#[c]⟩) [] (Its x) := by
  have hl : (x.cps.toList.map fun c => D.str ⟨#[c]⟩).length = x.cps.size := by rw [List.length_map, Array.length_toList]
  refine ⟨fun i μ2 F2 G2 H2 hj h1 h2 h3 h4 => ?_, fun i μ2 F2 G2 H2 hj h1 h2 h3 h4 => ?_, fun i y μ2 F2 G2 H2 v H3 hx h1 h2 h3 h4 z => ?_⟩
  · rw [hl] at hj; exact hj
  · rw [hl] at hj; exact hj
  · obtain ⟨rfl, c, hc, rfl⟩ := z
    rw [List.getElem?_map] at hx
    obtain ⟨j, e, rfl⟩ := Option.map_eq_some_iff.mp hx
    rw [Array.getElem?_toList, hc] at e
    cases e
    exact ⟨F2, Ex.refl _, h3, rfl⟩
theorem zip_get {κ : Type} : ∀ {ks : List κ} {ds : List D} {vs : List V} {i : Nat}, IsL K F ds vs → ks.length = vs.length → i < ks.length → ∃ k d v, ks[i]? = some k ∧ ds[i]? = some d ∧ vs[i]? = some v ∧ (ks.zip vs)[i]? = some (k, v) ∧ Is K F d v := fun {ks ds vs i} h hl hi => by
  have h1 := h.length
  have h2 : i < ds.length := by omega
  obtain ⟨v, e, iv⟩ := h.get (List.getElem?_eq_getElem h2)
  refine ⟨ks[i], ds[i], v, List.getElem?_eq_getElem hi, List.getElem?_eq_getElem h2, e, ?_, iv⟩
  rw [List.getElem?_zip_eq_some]
  exact ⟨List.getElem?_eq_getElem hi, e⟩
theorem is_key (k : Key) : Is K F (keyD k) (kV k) := by cases k <;> rfl
theorem is_keys : ∀ ks : List Key, IsL K F (ks.map keyD) (ks.map kV)
  | [] => IsL.nil
  | k :: ks => .cons (is_key k) (is_keys ks)
section
variable {od : Obj} {ks : List Key} {kt : List (List Key)} {ds : List D} {vs : List V} {d : Addr}
theorem wk_keys (hF : F d = some (.frz od (.dK (ks.zip vs)))) (hl : ks.length = vs.length) (hi : IsL K F ds vs) : Wk K μ F (ks.map keyD) [] (Itk d od (ks.zip vs)) := by
  have lz : (ks.zip vs).length = ks.length := by rw [List.length_zip]; omega
  refine ⟨fun i μ2 F2 G2 H2 hj h1 h2 h3 h4 => ?_, fun i μ2 F2 G2 H2 hj h1 h2 h3 h4 => ?_, fun i x μ2 F2 G2 H2 v H3 hx h1 h2 h3 h4 y => ?_⟩
  · rw [List.length_map] at hj
    exact ⟨h3.sub _ _ (h2 _ _ hF), by rw [lz]; exact hj⟩
  · rw [List.length_map] at hj
    exact ⟨h3.sub _ _ (h2 _ _ hF), by rw [lz]; exact hj⟩
  · obtain ⟨rfl, k, v', e, rfl⟩ := y
    rw [List.getElem?_map] at hx
    obtain ⟨k', e', rfl⟩ := Option.map_eq_some_iff.mp hx
    rw [List.getElem?_zip_eq_some] at e
    rw [e.1] at e'
    cases e'
    exact ⟨F2, Ex.refl _, h3, is_key _⟩
theorem wk_keysT (hF : F d = some (.frz od (.dT (kt.zip vs)))) (hl : kt.length = vs.length) (hi : IsL K F ds vs) : Wk K μ F (kt.map tkeyD) [] (Itkt d od (kt.zip vs)) := by
  have lz : (kt.zip vs).length = kt.length := by rw [List.length_zip]; omega
  refine ⟨fun i μ2 F2 G2 H2 hj h1 h2 h3 h4 => ?_, fun i μ2 F2 G2 H2 hj h1 h2 h3 h4 => ?_, fun i x μ2 F2 G2 H2 v H3 hx h1 h2 h3 h4 y => ?_⟩
  · rw [List.length_map] at hj
    exact ⟨h3.sub _ _ (h2 _ _ hF), by rw [lz]; exact hj⟩
  · rw [List.length_map] at hj
    exact ⟨h3.sub _ _ (h2 _ _ hF), by rw [lz]; exact hj⟩
  · obtain ⟨rfl, k, v', q, e, rfl, hq⟩ := y
    rw [List.getElem?_map] at hx
    obtain ⟨k', e', rfl⟩ := Option.map_eq_some_iff.mp hx
    rw [List.getElem?_zip_eq_some] at e
    rw [e.1] at e'
    cases e'
    have rest : Ex F2 (upd F2 q (.tup (k.map kV))) := fun b o hb => by
      by_cases hq' : b = q
      · subst hq'
        have := h3.sub _ _ hb
        rw [hq] at this
        cases this
        exact upd_same
      · rw [upd_ne hq']; exact hb
    refine ⟨upd F2 q (.tup (k.map kV)), rest, ⟨fun b o hb => ?_, fun l u hl => ?_, h3.inj⟩, q, _, rfl, upd_same, is_keys k⟩
    · by_cases hq' : b = q
      · subst hq'; rw [upd_same] at hb; cases hb; exact hq
      · rw [upd_ne hq'] at hb; exact h3.sub _ _ hb
    · obtain ⟨n1, ob⟩ := h3.at_ l u hl
      have hne : μ2 l ≠ q := fun z => by
        rw [z] at ob
        cases u with
        | lst _ => obtain ⟨_, e, _⟩ := ob; rw [hq] at e; cases e
        | dK _ _ => obtain ⟨_, e, _⟩ := ob; rw [hq] at e; cases e
        | dT _ _ => obtain ⟨_, e, _⟩ := ob; rw [hq] at e; cases e
        | ins _ _ _ => obtain ⟨_, _, e, _⟩ := ob; rw [hq] at e; cases e
        | _ => exact ob
      refine ⟨by rw [upd_ne hne]; exact n1, ?_⟩
      exact ob.mono rest
theorem wk_vals (hF : F d = some (.frz od (.dK (ks.zip vs)))) (hl : ks.length = vs.length) (hi : IsL K F ds vs) : Wk K μ F ds [] (Itd d od (ks.zip vs)) := by
  have lz : (ks.zip vs).length = ds.length := by rw [List.length_zip, ← hi.length]; omega
  refine ⟨fun i μ2 F2 G2 H2 hj h1 h2 h3 h4 => ?_, fun i μ2 F2 G2 H2 hj h1 h2 h3 h4 => ?_, fun i x μ2 F2 G2 H2 v H3 hx h1 h2 h3 h4 y => ?_⟩
  · exact ⟨h3.sub _ _ (h2 _ _ hF), by rw [lz]; exact hj⟩
  · exact ⟨h3.sub _ _ (h2 _ _ hF), by rw [lz]; exact hj⟩
  · obtain ⟨rfl, k, e⟩ := y
    rw [List.getElem?_zip_eq_some] at e
    obtain ⟨v', e', iv⟩ := hi.get hx
    rw [e.2] at e'
    cases e'
    exact ⟨F2, Ex.refl _, h3, iv.mono h2⟩
theorem wk_items (hF : F d = some (.frz od (.dK (ks.zip vs)))) (hl : ks.length = vs.length) (hi : IsL K F ds vs) : Wk K μ F ((ks.zip ds).map fun p => D.tup [keyD p.1, p.2]) [] (Iti d od (ks.zip vs)) := by
  have lz : (ks.zip vs).length = ((ks.zip ds).map fun p => D.tup [keyD p.1, p.2]).length := by rw [List.length_map, List.length_zip, List.length_zip, ← hi.length]
  refine ⟨fun i μ2 F2 G2 H2 hj h1 h2 h3 h4 => ?_, fun i μ2 F2 G2 H2 hj h1 h2 h3 h4 => ?_, fun i x μ2 F2 G2 H2 v H3 hx h1 h2 h3 h4 y => ?_⟩
  · exact ⟨h3.sub _ _ (h2 _ _ hF), by rw [lz]; exact hj⟩
  · exact ⟨h3.sub _ _ (h2 _ _ hF), by rw [lz]; exact hj⟩
  · obtain ⟨T, k, v', e, rfl, nT, rfl⟩ := y
    rw [List.getElem?_zip_eq_some] at e
    rw [List.getElem?_map] at hx
    obtain ⟨⟨k2, d2⟩, e', rfl⟩ := Option.map_eq_some_iff.mp hx
    rw [List.getElem?_zip_eq_some] at e'
    obtain ⟨v2, e3, iv⟩ := hi.get e'.2
    have ek : k2 = k := by
      have := e'.1
      dsimp only at this
      rw [e.1] at this
      cases this
      rfl
    have ev : v2 = v' := by
      have := e.2
      dsimp only at this
      rw [e3] at this
      cases this
      rfl
    subst ek ev
    exact ⟨_, Ex.new (h3.sub.none nT), h3.newF nT, T, _, rfl, upd_same, .cons (is_key _) (.cons (iv.mono (h2.trans (Ex.new (h3.sub.none nT)))) .nil)⟩
end
theorem wk_enum {u : D} {xs : List D} {lk : Lk} {a : Addr} (hu : itemsL u = some xs) (h : Src K μ F u lk (.ref a)) : Wk K μ F (enumD xs) lk (Ite K a) := by
  have w := wk_list hu h
  have hl : (enumD xs).length = xs.length := by unfold enumD; rw [List.length_map, List.length_zipIdx]
  refine ⟨fun i μ2 F2 G2 H2 hi h1 h2 h3 h4 => ?_, fun i μ2 F2 G2 H2 hi h1 h2 h3 h4 => ?_, fun i x μ2 F2 G2 H2 v H3 hx h1 h2 h3 h4 y => ?_⟩
  · exact w.go i μ2 F2 G2 H2 (by rw [hl] at hi; exact hi) h1 h2 h3 h4
  · exact w.stop i μ2 F2 G2 H2 (by rw [hl] at hi; exact hi) h1 h2 h3 h4
  · obtain ⟨T, x', rfl, nT, rfl, y⟩ := y
    obtain ⟨vs, q1, q2⟩ := src_at hu h μ2 F2 G2 H2 h1 h2 h3 h4
    unfold enumD at hx
    rw [List.getElem?_map, List.getElem?_zipIdx] at hx
    cases hxi : xs[i]? with
    | none => rw [hxi] at hx; cases hx
    | some z =>
      rw [hxi] at hx
      obtain ⟨v', e, iv⟩ := q2.get hxi
      have := y vs q1
      rw [e] at this
      cases this
      have : x = .tup [.int (i : Int), z] := by
        simp at hx
        exact hx.symm
      subst this
      exact ⟨_, Ex.new (h3.sub.none nT), h3.newF nT, T, _, rfl, upd_same, .cons rfl (.cons (iv.mono (Ex.new (h3.sub.none nT))) .nil)⟩
theorem wk_zip {u w : D} {xs ys : List D} {lk lk' : Lk} {a b : Addr} (hu : itemsL u = some xs) (hw : itemsL w = some ys) (h : Src K μ F u lk (.ref a)) (h' : Src K μ F w lk' (.ref b)) : Wk K μ F (zipD xs ys) (lk ++ lk') (Itz K a b) := by
  have at_ : ∀ (μ2 : Nat → Addr) F2 G2 H2, (∀ p ∈ lk ++ lk', μ2 p.1 = μ p.1) → Ex F F2 → Rep K μ2 F2 G2 H2 → heldB (lk ++ lk') G2 = true → ∃ vs us, SqL K H2 a vs ∧ IsL K F2 xs vs ∧ SqL K H2 b us ∧ IsL K F2 ys us := fun μ2 F2 G2 H2 h1 h2 h3 h4 => by
    obtain ⟨k1, k2⟩ := heldB_app h4
    obtain ⟨vs, q1, q2⟩ := src_at hu h μ2 F2 G2 H2 (fun p hp => h1 p (List.mem_append_left _ hp)) h2 h3 k1
    obtain ⟨us, q3, q4⟩ := src_at hw h' μ2 F2 G2 H2 (fun p hp => h1 p (List.mem_append_right _ hp)) h2 h3 k2
    exact ⟨vs, us, q1, q2, q3, q4⟩
  have hl : (zipD xs ys).length = min xs.length ys.length := by unfold zipD; rw [List.length_map, List.length_zip]
  refine ⟨fun i μ2 F2 G2 H2 hi h1 h2 h3 h4 => ?_, fun i μ2 F2 G2 H2 hi h1 h2 h3 h4 => ?_, fun i x μ2 F2 G2 H2 v H3 hx h1 h2 h3 h4 y => ?_⟩
  · obtain ⟨vs, us, q1, q2, q3, q4⟩ := at_ μ2 F2 G2 H2 h1 h2 h3 h4
    rw [hl] at hi
    obtain ⟨v, e, _⟩ := q2.get (List.getElem?_eq_getElem (show i < xs.length by omega))
    obtain ⟨v', e', _⟩ := q4.get (List.getElem?_eq_getElem (show i < ys.length by omega))
    exact ⟨vs, us, v, v', q1, q3, e, e'⟩
  · obtain ⟨vs, us, q1, q2, q3, q4⟩ := at_ μ2 F2 G2 H2 h1 h2 h3 h4
    rw [hl] at hi
    have := q2.length
    have := q4.length
    exact ⟨vs, us, q1, q3, by omega⟩
  · obtain ⟨T, x', y', rfl, nT, rfl, y1, y2⟩ := y
    obtain ⟨vs, us, q1, q2, q3, q4⟩ := at_ μ2 F2 G2 H2 h1 h2 h3 h4
    unfold zipD at hx
    rw [List.getElem?_map] at hx
    obtain ⟨⟨z1, z2⟩, ez, rfl⟩ := Option.map_eq_some_iff.mp hx
    rw [List.getElem?_zip_eq_some] at ez
    obtain ⟨v1, e1, i1⟩ := q2.get ez.1
    obtain ⟨v2, e2, i2⟩ := q4.get ez.2
    have := y1 vs q1
    rw [e1] at this
    cases this
    have := y2 us q3
    rw [e2] at this
    cases this
    exact ⟨_, Ex.new (h3.sub.none nT), h3.newF nT, T, _, rfl, upd_same, .cons (i1.mono (Ex.new (h3.sub.none nT))) (.cons (i2.mono (Ex.new (h3.sub.none nT))) .nil)⟩

/-! ### iterables -/
/-- what stands after an evaluation -/
theorem src_of {w : Rv} {u : D} {v : V} (iw : IsW X μ F G H w v) (rp : Rep X.K μ F G H) (hw : w = .d u ∨ ∃ l, w = .r l ∧ G[l]? = some u) : Src X.K μ F u (lkOf w u) v := by
  intro μ2 F2 G2 H2 h1 h2 h3 h4
  rcases hw with rfl | ⟨l, rfl, hl⟩
  · exact Is.sees h3.sub ((show Is X.K F u v from iw).mono h2)
  · obtain ⟨_, rfl⟩ := (show l < G.length ∧ v = .ref (μ l) from iw)
    obtain ⟨e, _⟩ := heldB_cons h4
    have := (h3.at_ l u e).2.sees
    rw [h1 (l, u) List.mem_cons_self] at this
    exact this
theorem walkL_ok {g : D → Option (List D)} {w : Rv} {r : Except Err (List D × Lk)} (h : walkL g w G = some (r, G')) : G' = G ∧ ∃ u xs, (w = .d u ∨ ∃ l us, w = .r l ∧ G[l]? = some u ∧ u = .lst us) ∧ g u = some xs ∧ r = .ok (xs, lkOf w u) := by
  cases w with
  | d u =>
    cases hg : g u with
    | none =>
      have h : (match g u with | some xs => some (.ok (xs, []), G) | none => none) = some (r, G') := h
      rw [hg] at h; cases h
    | some xs =>
      have h : (match g u with | some xs => some (.ok (xs, []), G) | none => none) = some (r, G') := h
      rw [hg] at h; cases h
      exact ⟨rfl, u, xs, .inl rfl, hg, rfl⟩
  | r l =>
    have h : (match G[l]? with
      | some (.lst us) => match g (.lst us) with
        | some xs => some (.ok (xs, [(l, .lst us)]), G)
        | none => none
      | _ => none) = some (r, G') := h
    cases hl : G[l]? with
    | none => rw [hl] at h; cases h
    | some u =>
      rw [hl] at h
      cases u with
      | lst us =>
        dsimp only at h
        cases hg : g (.lst us) with
        | none => rw [hg] at h; cases h
        | some xs =>
          rw [hg] at h; cases h
          exact ⟨rfl, .lst us, xs, .inr ⟨l, us, rfl, hl, rfl⟩, hg, rfl⟩
      | _ => cases h
  | n u => cases h
  | ex er => cases h
theorem is_dK {ks : List Key} {ds : List D} {v : V} (h : Is K F (.dK ks ds) v) : ∃ a od vs, v = .ref a ∧ F a = some (.frz od (.dK (ks.zip vs))) ∧ ks.length = vs.length ∧ IsL K F ds vs := h
theorem is_dT {ks : List (List Key)} {ds : List D} {v : V} (h : Is K F (.dT ks ds) v) : ∃ a od vs, v = .ref a ∧ F a = some (.frz od (.dT (ks.zip vs))) ∧ ks.length = vs.length ∧ IsL K F ds vs := h
theorem lk_lt {w : Rv} {u : D} {G : Cs} (hw : w = .d u ∨ ∃ l us, w = .r l ∧ G[l]? = some u ∧ u = .lst us) : ∀ c ∈ lkOf w u, c.1 < G.length := by
  rcases hw with rfl | ⟨l, us, rfl, e, _⟩
  · intro c z; cases z
  · intro c z
    have : c = (l, u) := by simpa [lkOf] using z
    subst this
    exact (List.getElem?_eq_some_iff.mp e).1
/-- for x in e -/
theorem wi_val (he : Wx X e ma) (la : ∀ ρ, Lc (ma ρ)) : Wi X tg e (fun ρ => T.bind (T.bind (ma ρ) fin) (walkL items)) := by
  refine ⟨fun pins s σ H R I ht => ?_⟩
  obtain ⟨μ, ρ, F, G, r, G', A, hx, fe, k⟩ := ht
  refine thn (he.goF la I A hx fe) fun u1 s1 ⟨v1, H1, I1, r1, w, G1, F1, nn, h1, h2, h3, hl, h4, h5⟩ => ?_
  obtain ⟨eg, u, xs, hw, hu, er⟩ := walkL_ok h1
  subst eg er
  have src := src_of h5 h3.rep (hw.imp id fun ⟨l, us, e1, e2, _⟩ => ⟨l, e1, e2⟩)
  have fin : ∀ J, Wk X.K μ F1 xs (lkOf w u) J → R J H1 := fun J wk => k _ rfl F1 H1 h2 h3.rep J wk (lk_lt hw)
  unfold items at hu
  split at hu
  · have q := src μ F1 G' H1 (fun _ _ => rfl) (Ex.refl _) h3.rep
    rcases hw with rfl | ⟨l, us, rfl, e2, _⟩
    · obtain ⟨a, vs, rfl, e2, _⟩ := sees_lst (Is.sees h3.rep.sub (show Is X.K F1 _ v1 from h5))
      cases (show u1 = Value.ref a from r1)
      exact it_list I1 e2 (fin _ (wk_list (u := .lst _) hu src))
    · obtain ⟨a, vs, rfl, e2, _⟩ := sees_lst (h5.sees h3.rep (w := .r l) e2)
      cases (show u1 = Value.ref a from r1)
      exact it_list I1 e2 (fin _ (wk_list (u := .lst _) hu src))
  · cases hu
    rcases hw with rfl | ⟨l, us, _, _, z⟩
    · obtain ⟨a, vs, rfl, e1, e2⟩ := (show ∃ a vs, v1 = .ref a ∧ F1 a = some (.tup vs) ∧ IsL X.K F1 xs vs from h5)
      cases (show u1 = Value.ref a from r1)
      exact it_tup I1 (.of (h3.rep.sub _ _ e1)) (fin _ (wk_tup e1 e2))
    · cases z
  · cases hu
    rcases hw with rfl | ⟨l, us, _, _, z⟩
    · obtain ⟨a, rfl, e2, _⟩ := sees_scr h3.rep.sub (Is.sees h3.rep.sub (show Is X.K F1 _ v1 from h5))
      cases (show u1 = Value.ref a from r1)
      exact it_list I1 e2 (fin _ (wk_list rfl src))
    · cases z
  · cases hu
    rcases hw with rfl | ⟨l, us, _, _, z⟩
    · exact it_str I1 (by rw [show v1 = .str _ from h5] at r1; exact r1) (fin _ wk_str)
    · cases z
  · cases hu
    rcases hw with rfl | ⟨l, us, _, _, z⟩
    · obtain ⟨a, od, vs, rfl, e1, e2, e3⟩ := is_dK (show Is X.K F1 (.dK _ _) v1 from h5)
      cases (show u1 = Value.ref a from r1)
      exact it_keys I1 (h3.rep.sub _ _ e1) (fin _ (wk_keys e1 e2 e3))
    · cases z
  · cases hu
    rcases hw with rfl | ⟨l, us, _, _, z⟩
    · obtain ⟨a, od, vs, rfl, e1, e2, e3⟩ := is_dT (show Is X.K F1 (.dT _ _) v1 from h5)
      cases (show u1 = Value.ref a from r1)
      exact it_keysT I1 (h3.rep.sub _ _ e1) (fin _ (wk_keysT e1 e2 e3))
    · cases z
  · cases hu
/-- the reading of one int argument, two -/
theorem tA_goI1 {β : Type} {k : Int → T β} {r : Except Err β} {R : List V → Hp → Prop} (he : Wx X e ma) (la : ∀ ρ, Lc (ma ρ)) (A : At X σ H μ ρ F G) (hx : T.bind (T.bind (ma ρ) asI) k G = some (r, G')) (fe : FinE X σ μ F G' r)
    (next : ∀ i G1 F1 H1, k i G1 = some (r, G') → Ex F F1 → At X σ H1 μ ρ F1 G1 → FinE X σ μ F1 G' r → R [.int i] H1) : tCons (tE X ma) tNil σ H R :=
  tE_goI A (la ρ) hx fe fun i G1 F1 H1 h1 h2 h3 h4 => next i G1 F1 H1 h1 h2 h3 h4
/-- range(a) -/
theorem wi_rg1 (he : Wx X a ma) (la : ∀ ρ, Lc (ma ρ)) (hg : Gl X "range") (hm : X.mg "range" = none) (hs : starEach [a] X.env = [(false, eval a X.env)]) :
    Wi X tg (.Call (.Name "range" p) [a] [] pos) (fun ρ => T.bind (T.bind (ma ρ) asI) fun i => T.ask (i62 i) (T.pure (rangeD 0 i.toNat, []))) := by
  refine ⟨fun pins s σ H R I ht => ?_⟩
  obtain ⟨μ, ρ, F, G, r, G', A, hx, fe, k⟩ := ht
  refine (pi_range1 hg hm (pa_cons he pa_nil hs) hs).run pins s σ H R I (tE_goI A (la ρ) hx fe fun i G1 F1 H1 h1 h2 h3 h4 => ?_)
  obtain ⟨c, h1⟩ := T.ask_ok h1
  cases h1
  obtain ⟨c1, c2⟩ := Bool.and_eq_true_iff.mp c
  exact ⟨i, rfl, of_decide_eq_true c1, of_decide_eq_true c2, k _ rfl F1 H1 h2 h3.rep _ wk_range (fun _ z => nomatch z)⟩
theorem wi_rg2 (he : Wx X a ma) (hb : Wx X b mb) (la : ∀ ρ, Lc (ma ρ)) (lb : ∀ ρ, Lc (mb ρ)) (hg : Gl X "range") (hm : X.mg "range" = none) (hs : starEach [a, b] X.env = [(false, eval a X.env), (false, eval b X.env)]) (hs2 : starEach [b] X.env = [(false, eval b X.env)]) :
    Wi X tg (.Call (.Name "range" p) [a, b] [] pos) (fun ρ => T.bind (T.bind (ma ρ) asI) fun i => T.bind (T.bind (mb ρ) asI) fun j => T.ask (i62 i && i62 j) (T.pure (rangeD i (j - i).toNat, []))) := by
  refine ⟨fun pins s σ H R I ht => ?_⟩
  obtain ⟨μ, ρ, F, G, r, G', A, hx, fe, k⟩ := ht
  refine (pi_range2 hg hm (pa_cons he (pa_cons hb pa_nil hs2) (by rw [hs, hs2])) hs hs2).run pins s σ H R I (tE_goI A (la ρ) hx fe fun i G1 F1 H1 h1 h2 h3 h4 => ?_)
  refine tE_goI h3 (lb ρ) h1 h4 fun j G2 F2 H2 k1 k2 k3 k4 => ?_
  obtain ⟨c, k1⟩ := T.ask_ok k1
  cases k1
  obtain ⟨c1, c2⟩ := Bool.and_eq_true_iff.mp c
  obtain ⟨c3, c4⟩ := Bool.and_eq_true_iff.mp c1
  obtain ⟨c5, c6⟩ := Bool.and_eq_true_iff.mp c2
  exact ⟨i, j, rfl, ⟨of_decide_eq_true c3, of_decide_eq_true c4, of_decide_eq_true c5, of_decide_eq_true c6⟩, k _ rfl F2 H2 (h2.trans k2) k3.rep _ wk_range (fun _ z => nomatch z)⟩
/-- a list that is walked, as an argument -/
theorem src_seq {u : D} {us : List D} {lk : Lk} {v : V} (rp : Rep K μ F G H) (hu : itemsL u = some us) (src : Src K μ F u lk v) (hk : heldB lk G = true) : ∃ a vs, v = .ref a ∧ SqL K H a vs := by
  have q := src μ F G H (fun _ _ => rfl) (Ex.refl _) rp hk
  unfold itemsL at hu
  split at hu
  · obtain ⟨a, vs, e1, e2, _⟩ := sees_lst q
    exact ⟨a, vs, e1, e2⟩
  · obtain ⟨a, e1, e2, _⟩ := sees_scr rp.sub q
    exact ⟨a, _, e1, e2⟩
  · cases hu
theorem lk_held {w : Rv} {u : D} {G : Cs} (hw : w = .d u ∨ ∃ l us, w = .r l ∧ G[l]? = some u ∧ u = .lst us) : heldB (lkOf w u) G = true := by
  rcases hw with rfl | ⟨l, us, rfl, e, _⟩
  · rfl
  · unfold lkOf heldB
    rw [List.all_cons]
    dsimp only
    rw [e]
    dsimp only
    rw [D.same_self]
    rfl
theorem wi_enum {elts : List Expr} {kk : Nat} {tpos : Pos} (he : Wx X e ma) (la : ∀ ρ, Lc (ma ρ)) (hg : Gl X "enumerate") (hm : X.mg "enumerate" = none) (hs : starEach [e] X.env = [(false, eval e X.env)]) :
    Wi X (.Tuple elts kk tpos) (.Call (.Name "enumerate" p) [e] [] pos) (fun ρ => T.bind (T.bind (T.bind (ma ρ) fin) (walkL itemsL)) fun us => T.pure (enumD us.1, us.2)) := by
  refine ⟨fun pins s σ H R I ht => ?_⟩
  obtain ⟨μ, ρ, F, G, r, G', A, hx, fe, k⟩ := ht
  dsimp only at hx
  rw [T.bind_assoc] at hx
  refine (pi_enum hg hm (pa_cons (he.frz la) pa_nil hs) hs).run pins s σ H R I (tE_go (m := fun ρ => T.bind (ma ρ) L4.fin) A (.bind (la ρ) Lc.fin) hx fe fun w G1 F1 H1 v h0 h1 h2 h3 hl h4 h5 => ?_)
  rcases T.bind_ok h1 with ⟨er, h6, _⟩ | ⟨us, G2, h6, h7⟩
  · obtain ⟨_, _, _, _, _, z⟩ := walkL_ok h6
    cases z
  · obtain ⟨eg, u, xs, hw, hu, z⟩ := walkL_ok h6
    cases z
    subst eg
    cases h7
    have src := src_of h5 h3.rep (hw.imp id fun ⟨l, us, e1, e2, _⟩ => ⟨l, e1, e2⟩)
    obtain ⟨a, vs, rfl, sq⟩ := src_seq h3.rep hu src (lk_held hw)
    exact ⟨a, vs, rfl, sq, k _ rfl F1 H1 h2 h3.rep _ (wk_enum hu src) (lk_lt hw)⟩
theorem wi_zip {elts : List Expr} {kk : Nat} {tpos : Pos} (ha : Wx X a ma) (hb : Wx X b mb) (la : ∀ ρ, Lc (ma ρ)) (lb : ∀ ρ, Lc (mb ρ)) (hg : Gl X "zip") (hm : X.mg "zip" = none)
    (hs : starEach [a, b] X.env = (false, eval a X.env) :: starEach [b] X.env) (hs2 : starEach [b] X.env = [(false, eval b X.env)]) (hpl : (backTo pos (starEach [b] X.env)).any (·.1) = false) :
    Wi X (.Tuple elts kk tpos) (.Call (.Name "zip" p) [a, b] [] pos) (fun ρ => T.bind (T.bind (T.bind (ma ρ) fin) (walkL itemsL)) fun us => T.bind (T.bind (T.bind (mb ρ) fin) (walkL itemsL)) fun vs => T.bind (held (us.2 ++ vs.2)) fun _ => T.pure (zipD us.1 vs.1, us.2 ++ vs.2)) := by
  refine ⟨fun pins s σ H R I ht => ?_⟩
  obtain ⟨μ, ρ, F, G, r, G', A, hx, fe, k⟩ := ht
  dsimp only at hx
  rw [T.bind_assoc] at hx
  refine (pi_zip hg hm (pa_cons (ha.frz la) (pa_cons (hb.frz lb) pa_nil hs2) hs) hs hpl).run pins s σ H R I (tE_go (m := fun ρ => T.bind (ma ρ) L4.fin) A (.bind (la ρ) Lc.fin) hx fe fun w G1 F1 H1 v h0 h1 h2 h3 hl h4 h5 => ?_)
  rcases T.bind_ok h1 with ⟨er, h6, _⟩ | ⟨us, G2, h6, h7⟩
  · obtain ⟨_, _, _, _, _, z⟩ := walkL_ok h6
    cases z
  · obtain ⟨eg, u, xs, hw, hu, z⟩ := walkL_ok h6
    cases z
    subst eg
    have src := src_of h5 h3.rep (hw.imp id fun ⟨l, us, e1, e2, _⟩ => ⟨l, e1, e2⟩)
    have h7 : T.bind (T.bind (T.bind (mb ρ) L4.fin) (walkL itemsL)) (fun vs => T.bind (held (lkOf w u ++ vs.2)) fun _ => T.pure (zipD xs vs.1, lkOf w u ++ vs.2)) G2 = some (r, G') := h7
    rw [T.bind_assoc] at h7
    refine tE_go (m := fun ρ => T.bind (mb ρ) L4.fin) h3 (.bind (lb ρ) Lc.fin) h7 h4 fun w' G3 F3 H3 v' j0 j1 j2 j3 jl j4 j5 => ?_
    rcases T.bind_ok j1 with ⟨er, j6, _⟩ | ⟨us', G4, j6, j7⟩
    · obtain ⟨_, _, _, _, _, z⟩ := walkL_ok j6
      cases z
    · obtain ⟨eg, u', ys, hw', hu', z⟩ := walkL_ok j6
      cases z
      subst eg
      have j7 : T.bind (held (lkOf w u ++ lkOf w' u')) (fun _ => T.pure (zipD xs ys, lkOf w u ++ lkOf w' u')) G4 = some (r, G') := j7
      cases hk : heldB (lkOf w u ++ lkOf w' u') G4 with
      | false => unfold T.bind held at j7; rw [hk] at j7; cases j7
      | true =>
        unfold T.bind held at j7; rw [hk] at j7; cases j7
        have src' := src_of j5 j3.rep (hw'.imp id fun ⟨l, us, e1, e2, _⟩ => ⟨l, e1, e2⟩)
        have src2 : Src X.K μ F3 u (lkOf w u) v := fun μ2 F5 G5 H5 c1 c2 c3 c4 => src μ2 F5 G5 H5 c1 (j2.trans c2) c3 c4
        obtain ⟨k1, k2⟩ := heldB_app hk
        obtain ⟨a', vs, rfl, sq⟩ := src_seq j3.rep hu src2 k1
        obtain ⟨b', vs', rfl, sq'⟩ := src_seq j3.rep hu' src' k2
        refine ⟨a', b', vs, vs', rfl, sq, sq', k _ rfl F3 H3 (h2.trans j2) j3.rep _ (wk_zip hu hu' src2 src') fun c hc => ?_⟩
        rcases List.mem_append.mp hc with hc | hc
        · rw [jl]; exact lk_lt hw c hc
        · exact lk_lt hw' c hc
/-- d.items(), d.values() of a dict that stays -/
theorem wi_items {elts : List Expr} {kk : Nat} {tpos : Pos} (he : Wx X e ma) (la : ∀ ρ, Lc (ma ρ)) (hbase : attributeBase e "items" X.env (eval e X.env) = eval e X.env) (hline : (apos.endLine == cpos.line) = true) :
    Wi X (.Tuple elts kk tpos) (.Call (.Attribute e "items" apos) [] [] cpos) (fun ρ => T.bind (T.bind (ma ρ) fin) (walkL pairsK)) := by
  refine ⟨fun pins s σ H R I ht => ?_⟩
  obtain ⟨μ, ρ, F, G, r, G', A, hx, fe, k⟩ := ht
  refine (pi_items (he.frz la) hbase hline).run pins s σ H R I (tE_go (m := fun ρ => T.bind (ma ρ) L4.fin) A (.bind (la ρ) Lc.fin) hx fe fun w G1 F1 H1 v h0 h1 h2 h3 hl h4 h5 => ?_)
  obtain ⟨eg, u, xs, hw, hu, er⟩ := walkL_ok h1
  subst eg er
  unfold pairsK at hu
  split at hu
  · cases hu
    rcases hw with rfl | ⟨l, us, _, _, z⟩
    · obtain ⟨a, od, vs, rfl, e1, e2, e3⟩ := is_dK (show Is X.K F1 (.dK _ _) v from h5)
      exact ⟨a, od, _, rfl, h3.rep.sub _ _ e1, k _ rfl F1 H1 h2 h3.rep _ (wk_items e1 e2 e3) (fun _ z => nomatch z)⟩
    · cases z
  · cases hu
theorem wi_vals (he : Wx X e ma) (la : ∀ ρ, Lc (ma ρ)) (hbase : attributeBase e "values" X.env (eval e X.env) = eval e X.env) (hline : (apos.endLine == cpos.line) = true) :
    Wi X tg (.Call (.Attribute e "values" apos) [] [] cpos) (fun ρ => T.bind (T.bind (ma ρ) fin) (walkL valsK)) := by
  refine ⟨fun pins s σ H R I ht => ?_⟩
  obtain ⟨μ, ρ, F, G, r, G', A, hx, fe, k⟩ := ht
  refine (pi_values (he.frz la) hbase hline).run pins s σ H R I (tE_go (m := fun ρ => T.bind (ma ρ) L4.fin) A (.bind (la ρ) Lc.fin) hx fe fun w G1 F1 H1 v h0 h1 h2 h3 hl h4 h5 => ?_)
  obtain ⟨eg, u, xs, hw, hu, er⟩ := walkL_ok h1
  subst eg er
  unfold valsK at hu
  split at hu
  · cases hu
    rcases hw with rfl | ⟨l, us, _, _, z⟩
    · obtain ⟨a, od, vs, rfl, e1, e2, e3⟩ := is_dK (show Is X.K F1 (.dK _ _) v from h5)
      exact ⟨a, od, _, rfl, h3.rep.sub _ _ e1, k _ rfl F1 H1 h2 h3.rep _ (wk_vals e1 e2 e3) (fun _ z => nomatch z)⟩
    · cases z
  · cases hu
end
end L4

set_option Elab.async false
set_option linter.all false
set_option maxRecDepth 100000
set_option maxHeartbeats 4000000
/-! Targets; comprehensions. -/
namespace L4
open PySem PySem.Spec PyProof.Rows L2
/-! ### targets -/
def gNames : List Nat → TGs
  | [] => gNil
  | i :: is => gCons (gName i) (gNames is)
def gT (K : PySem.W.Frag) : Tg → TG
  | .name i => gName i
  | .tup is => gTup K is.length (gNames is)
/-- slots that were set -/
inductive Upd (K : PySem.W.Frag) (F : Hp) : List Nat → Env → L2.St → Env → L2.St → Prop where
  | nil {ρ σ} : Upd K F [] ρ σ ρ σ
  | cons {i is d v ρ σ ρ1 σ1} (h : Is K F d v) (t : Upd K F is (putS d ρ i) (σ.set i (some v)) ρ1 σ1) : Upd K F (i :: is) ρ σ ρ1 σ1
def Tg.ix : Tg → List Nat
  | .name i => [i]
  | .tup is => is
section
variable {K : PySem.W.Frag} {F H : Hp} {σ : L2.St} {ρ ρ1 : Env} {R : L2.St → Hp → Prop} {μ : Nat → Addr} {G : Cs} {X : Cx}
theorem putAll_ok : ∀ {is : List Nat} {xs : List D} {vs : List V} {ρ : Env} {σ : L2.St}, putAll is xs ρ = some ρ1 → IsL K F xs vs → (∀ σ1, Upd K F is ρ σ ρ1 σ1 → R σ1 H) → gNames is vs σ H R
  | [], [], vs, ρ, σ, h, i, k => by cases h; rw [show vs = [] from i]; exact ⟨rfl, k _ .nil⟩
  | i :: is, x :: xs, _, ρ, σ, h, il, k => by
    obtain ⟨v, r, rfl, h1, h2⟩ := il
    exact ⟨v, r, rfl, putAll_ok (is := is) h h2 fun σ1 u => k σ1 (.cons h1 u)⟩
  | [], _ :: _, _, _, _, h, _, _ => by cases h
  | _ :: _, [], _, _, _, h, _, _ => by cases h
theorem putAll_len : ∀ {is : List Nat} {xs : List D} {ρ : Env}, putAll is xs ρ = some ρ1 → xs.length = is.length
  | [], [], _, _ => rfl
  | _ :: is, _ :: xs, ρ, h => by rw [List.length_cons, List.length_cons, putAll_len (is := is) h]
  | [], _ :: _, _, h => by cases h
  | _ :: _, [], _, h => by cases h
theorem putT_ok {t : Tg} {d : D} {v : V} (e : Ex F H) (i : Is K F d v) (hp : putT t d ρ = some ρ1) (k : ∀ σ1, Upd K F t.ix ρ σ ρ1 σ1 → R σ1 H) : gT K t v σ H R := by
  cases t with
  | name j => cases hp; exact k _ (.cons i .nil)
  | tup is =>
    cases d with
    | tup xs =>
      obtain ⟨a, vs, rfl, h1, h2⟩ := (show ∃ a vs, v = .ref a ∧ F a = some (.tup vs) ∧ IsL K F xs vs from i)
      exact ⟨a, vs, rfl, .of (e _ _ h1), by rw [h2.length]; exact putAll_len hp, putAll_ok hp h2 k⟩
    | _ => cases hp
theorem EnvOk.upd {X : Cx} {is : List Nat} {ρ ρ1 : Env} {σ σ1 : L2.St} (h : EnvOk X μ F G ρ σ) (u : Upd X.K F is ρ σ ρ1 σ1) : EnvOk X μ F G ρ1 σ1 := by
  induction u with
  | nil => exact h
  | cons i t ih => exact ih (h.set _ (w := .d _) i)
theorem wipe_at (σ : L2.St) : ∀ (vs : List Nat) (j : Nat), (L2.wipe σ vs)[j]? = if j ∈ vs then (σ[j]?).map (fun _ => none) else σ[j]?
  | [], j => by rw [if_neg (by simp)]; rfl
  | v :: vs, j => by
    have ih := wipe_at σ vs j
    unfold L2.wipe
    by_cases hv : v = j
    · subst hv
      rw [if_pos List.mem_cons_self, List.getElem?_set]
      rw [if_pos rfl, wipe_length]
      by_cases hl : v < σ.length
      · rw [if_pos hl, List.getElem?_eq_getElem hl]; rfl
      · rw [if_neg hl, List.getElem?_eq_none (by omega)]; rfl
    · rw [List.getElem?_set_ne hv, ih]
      have : (j ∈ v :: vs) ↔ j ∈ vs := by
        constructor
        · intro h
          rcases List.mem_cons.mp h with h | h
          · exact absurd h.symm hv
          · exact h
        · exact List.mem_cons_of_mem _
      by_cases hj : j ∈ vs
      · rw [if_pos hj, if_pos (this.mpr hj)]
      · rw [if_neg hj, if_neg fun z => hj (this.mp z)]
theorem wipe_set {σ : L2.St} {i : Nat} {o : Option V} {vs : List Nat} (h : i ∈ vs) : L2.wipe (σ.set i o) vs = L2.wipe σ vs := by
  apply List.ext_getElem?
  intro j
  rw [wipe_at, wipe_at]
  by_cases hj : j ∈ vs
  · rw [if_pos hj, if_pos hj, List.getElem?_set]
    split
    · rename_i e
      subst e
      split
      · rename_i hl
        rw [List.getElem?_eq_getElem hl]; rfl
      · rename_i hl
        rw [List.getElem?_eq_none (by omega)]
    · rfl
  · rw [if_neg hj, if_neg hj, List.getElem?_set_ne (fun e => hj (by rw [← e]; exact h))]
theorem wipe_upd {is vs : List Nat} {ρ ρ1 : Env} {σ σ1 : L2.St} (u : Upd K F is ρ σ ρ1 σ1) (h : ∀ i ∈ is, i ∈ vs) : L2.wipe σ1 vs = L2.wipe σ vs := by
  induction u with
  | nil => rfl
  | cons i t ih => rw [ih fun j hj => h j (List.mem_cons_of_mem _ hj), wipe_set (h _ List.mem_cons_self)]
theorem wipe_wipe {σ : L2.St} {vs : List Nat} : L2.wipe (L2.wipe σ vs) vs = L2.wipe σ vs := by
  apply List.ext_getElem?
  intro j
  rw [wipe_at, wipe_at]
  by_cases hj : j ∈ vs
  · rw [if_pos hj, if_pos hj]
    cases σ[j]? <;> rfl
  · rw [if_neg hj, if_neg hj]
end

/-! ### within a block -/
/-- no exception is held -/
def NoEx (ρ : Env) : Prop := ∀ (i : Nat) (er : Err), ρ[i]? ≠ some (some (.ex er))
structure At0 (K : PySem.W.Frag) (σ : L2.St) (H : Hp) (μ : Nat → Addr) (ρ : Env) (F : Hp) (G : Cs) : Prop where
  len : ρ.length = σ.length
  at_ : ∀ (i : Nat) (w : Rv), ρ[i]? = some (some w) → ∃ v, σ[i]? = some (some v) ∧ IsV K μ F G H w v ∧ ∀ u, w ≠ .n u
  rep : Rep K μ F G H
/-- a reading within a block: no error -/
def tM0 (K : PySem.W.Frag) {α : Type} (m : Env → T α) (σ : L2.St) (H : Hp) (R : (Nat → Addr) → Hp → Cs → Hp → α → Prop) : Prop :=
  ∃ (μ : Nat → Addr) (ρ : Env) (F : Hp) (G : Cs) (w : α) (G' : Cs), At0 K σ H μ ρ F G ∧ m ρ G = some (.ok w, G') ∧ ∀ F' H', Ex F F' → Rep K μ F' G' H' → R μ F' G' H' w
theorem At0.at {K : PySem.W.Frag} {X : Cx} {σ : L2.St} {H : Hp} {μ : Nat → Addr} {ρ : Env} {F : Hp} {G : Cs} (h : At0 K σ H μ ρ F G) (hK : X.K = K) : At X σ H μ ρ F G := by
  subst hK
  refine ⟨⟨h.len, fun i w e => ?_⟩, h.rep⟩
  obtain ⟨v, h1, h2, h3⟩ := h.at_ i w e
  refine ⟨v, h1, ?_⟩
  cases w with
  | d u => exact h2
  | r l => exact h2
  | n u => exact absurd rfl (h3 u)
  | ex er => exact h2.elim
theorem tM_of0 {K : PySem.W.Frag} {X : Cx} {α : Type} {m : Env → T α} {σ : L2.St} {H : Hp} {R R' : (Nat → Addr) → Hp → Cs → Hp → α → Prop} (hK : X.K = K) (h : tM0 K m σ H R) (hR : ∀ μ F G H w, R μ F G H w → R' μ F G H w) : tM X m σ H R' := by
  obtain ⟨μ, ρ, F, G, w, G', A, hx, k⟩ := h
  subst hK
  exact ⟨μ, ρ, F, G, .ok w, G', A.at rfl, hx, FinE.ok, fun w' e F' H' e1 rp => by cases e; exact hR _ _ _ _ _ (k F' H' e1 rp)⟩
def tT0 (K : PySem.W.Frag) (m : Env → T Bool) : TT := fun σ H R => tM0 K m σ H fun _ _ _ H' b => R b H'
def tD0 (K : PySem.W.Frag) (m : Env → T D) : TE := fun σ H R => tM0 K m σ H fun μ F' G' H' d => ∀ v, Is K F' d v → R v H'
def tI0 (K : PySem.W.Frag) (m : Env → T (List D × Lk)) : TI := fun σ H R => tM0 K m σ H fun μ F' G' H' p => ∀ J, Wk K μ F' p.1 p.2 J → (∀ c ∈ p.2, c.1 < G'.length) → R J H'
section
variable {X : Cx} {K : PySem.W.Frag} {e tg : Expr} {m : Env → T Rv} {ifs : List Expr}
theorem pe_of0 (h : Wx X e m) (lm : ∀ ρ, Lc (m ρ)) (hK : X.K = K) : PE X e (tD0 K fun ρ => T.bind (m ρ) finD) := by
  refine ⟨fun pins s σ H R I ht => ?_⟩
  obtain ⟨μ, ρ, F, G, w, G', A, hx, k⟩ := ht
  subst hK
  have hx : T.bind (m ρ) finD G = some (.ok w, G') := hx
  rw [← T.bind_pure (T.bind (m ρ) finD)] at hx
  refine (h.frz lm).run pins s σ H R I (tE_goD (A.at rfl) lm h hx FinE.ok fun d G1 F1 H1 v h1 h2 h3 hl h4 h5 => ?_)
  cases h1
  exact k F1 H1 h2 h3.rep v h5
/-- a clause's tests -/
abbrev Wc (X : Cx) (ifs : List Expr) (m : Env → T Bool) : Prop := PTs X ifs (tT0 X.K m)
theorem wc_none : Wc X [] (fun _ => T.pure true) := by
  refine ⟨fun pins s σ H Q I h => ?_⟩
  obtain ⟨μ, ρ, F, G, w, G', A, hx, k⟩ := h
  cases hx
  exact pts_nil.run pins s σ H Q I (k F H (Ex.refl F) A.rep)
theorem wc_one {m : Env → T Bool} (h : Wt X e m (eval e X.env)) : Wc X [e] m :=
  pts_one ⟨fun pins s σ H Q I ht => h.run pins s σ H Q I (tM_of0 rfl ht fun _ _ _ _ _ h => h)⟩
theorem pi_of0 {m : Env → T (List D × Lk)} (h : Wi X tg e m) (hK : X.K = K) : PI X tg e (tI0 K m) := by
  subst hK
  exact ⟨fun pins s σ H R I ht => h.run pins s σ H R I (tM_of0 rfl ht fun _ _ _ _ _ h => h)⟩
end
/-! ### the cell of what is made -/
section
variable {K : PySem.W.Frag} {μ : Nat → Addr} {F H : Hp} {G G1 : Cs} {ρ ρ1 : Env} {σ σ1 : L2.St} {a : Addr} {u : D} {X : Cx}
theorem blkE_at {vs : List Nat} {i : Nat} {w : Rv} (h : (blkE vs ρ)[i]? = some (some w)) : (wipe ρ vs)[i]? = some (some w) ∧ ∀ er, w ≠ .ex er := by
  unfold blkE at h
  rw [List.getElem?_map] at h
  obtain ⟨o, h1, h2⟩ := Option.map_eq_some_iff.mp h
  cases o with
  | none => cases h2
  | some w' =>
    cases w' with
    | ex er => cases h2
    | d u => cases h2; exact ⟨h1, fun er z => by cases z⟩
    | r l => cases h2; exact ⟨h1, fun er z => by cases z⟩
    | n u => cases h2; exact ⟨h1, fun er z => by cases z⟩
theorem blk_at {vs : List Nat} (h : EnvOk X μ F G ρ σ) (rp : Rep X.K μ F G H) : At0 X.K (L2.wipe σ vs) H μ (blkE vs ρ) F G := by
  have hw := h.wipe vs
  refine ⟨by unfold blkE; rw [List.length_map]; exact hw.len, fun i w e => ?_, rp⟩
  obtain ⟨e1, ne⟩ := blkE_at e
  obtain ⟨v, h1, h2⟩ := hw.at_ i w e1
  refine ⟨v, h1, ?_⟩
  cases w with
  | d u => exact ⟨h2, fun u z => by cases z⟩
  | r l => exact ⟨h2, fun u z => by cases z⟩
  | n u => exact h2.elim
  | ex er => exact absurd rfl (ne er)
theorem At0.upd {is : List Nat} (h : At0 K σ H μ ρ F G) (u : Upd K F is ρ σ ρ1 σ1) : At0 K σ1 H μ ρ1 F G := by
  induction u with
  | nil => exact h
  | @cons i is d v ρ σ ρ2 σ2 iv t ih =>
    refine ih ⟨by unfold putS; rw [List.length_set, List.length_set]; exact h.len, fun j w e => ?_, h.rep⟩
    unfold putS at e
    by_cases hij : i = j
    · subst hij
      have hl : i < ρ.length := by
        have := (List.getElem?_eq_some_iff.mp e).1
        rwa [List.length_set] at this
      rw [List.getElem?_set_self hl] at e
      cases e
      exact ⟨v, List.getElem?_set_self (by rw [← h.len]; exact hl), iv, fun u z => by cases z⟩
    · rw [List.getElem?_set_ne hij] at e
      obtain ⟨v', h1, h2⟩ := h.at_ j w e
      exact ⟨v', by rw [List.getElem?_set_ne hij]; exact h1, h2⟩
theorem At0.mono {F' H' : Hp} {G' : Cs} (h : At0 K σ H μ ρ F G) (e : Ex F F') (l : G'.length = G.length) (rp : Rep K μ F' G' H') : At0 K σ H' μ ρ F' G' := by
  refine ⟨h.len, fun i w hw => ?_, rp⟩
  obtain ⟨v, h1, h2, h3⟩ := h.at_ i w hw
  refine ⟨v, h1, ?_, h3⟩
  cases w with
  | d u => exact Is.mono e h2
  | r k => exact ⟨by rw [l]; exact h2.1, h2.2⟩
  | n u => exact absurd rfl (h3 u)
  | ex er => exact h2
theorem At0.weak {vs : List Nat} (h : At0 K σ H μ ρ F G) (e : L2.wipe σ1 vs = L2.wipe σ vs) (hv : ∀ (i : Nat), i ∈ vs → ∀ w, ρ[i]? ≠ some (some w)) : At0 K (L2.wipe σ1 vs) H μ ρ F G := by
  refine ⟨by rw [wipe_length, ← wipe_length σ1 vs, e, wipe_length]; exact h.len, fun i w hw => ?_, h.rep⟩
  obtain ⟨v, h1, h2⟩ := h.at_ i w hw
  refine ⟨v, ?_, h2⟩
  rw [e, wipe_at, if_neg fun z => hv i z w hw]
  exact h1
end
end L4

set_option Elab.async false
set_option linter.all false
set_option maxRecDepth 100000
set_option maxHeartbeats 4000000
/-! Comprehensions. -/
namespace L4
open PySem PySem.Spec PyProof.Rows L2
section
variable {α : Type} {G G' : Cs} {lk : Lk} {f : α → T Unit} {x : α} {xs : List α} {r : Except Err Unit}
theorem held_bind {β : Type} {k : Unit → T β} {r : Except Err β} (h : T.bind (held lk) k G = some (r, G')) : heldB lk G = true ∧ k () G = some (r, G') := by
  unfold T.bind held at h
  cases q : heldB lk G with
  | false => rw [q] at h; cases h
  | true => rw [q] at h; exact ⟨rfl, h⟩
theorem sure_ok {m : T α} {r : Except Err α} (h : T.sure m G = some (r, G')) : ∃ w, r = .ok w ∧ m G = some (.ok w, G') := by
  unfold T.sure at h
  split at h
  · rename_i w G1 e
    cases h
    exact ⟨w, rfl, e⟩
  · cases h
theorem each_cons (h : T.each lk f (x :: xs) G = some (r, G')) : heldB lk G = true ∧ ∃ G2, f x G = some (.ok (), G2) ∧ T.each lk f xs G2 = some (r, G') := by
  unfold T.each at h
  obtain ⟨h1, h⟩ := held_bind h
  rcases T.bind_ok h with ⟨er, h2, _⟩ | ⟨u, G2, h2, h3⟩
  · obtain ⟨w, e, _⟩ := sure_ok h2
    cases e
  · obtain ⟨w, e, h4⟩ := sure_ok h2
    exact ⟨h1, G2, h4, h3⟩
theorem each_nil (h : T.each lk f ([] : List α) G = some (r, G')) : heldB lk G = true ∧ r = .ok () ∧ G' = G := by
  unfold T.each held at h
  cases q : heldB lk G with
  | false => rw [q] at h; cases h
  | true => rw [q] at h; cases h; exact ⟨rfl, rfl, rfl⟩
theorem each_ok (xs : List α) : ∀ {G : Cs}, T.each lk f xs G = some (r, G') → r = .ok () := by
  induction xs with
  | nil => intro G h; exact (each_nil h).2.1
  | cons x xs ih => intro G h; obtain ⟨_, G2, _, h2⟩ := each_cons h; exact ih h2
theorem making_ok {u : D} {f : Nat → T Unit} {r : Except Err Rv} (h : making u f G = some (r, G')) : ∃ r2 G2, f G.length (G ++ [u]) = some (r2, G2) ∧ (∀ x, r2 = .ok x → ∃ u', G2[G.length]? = some u' ∧ r = .ok (.n u') ∧ G' = G2.take G.length) := by
  unfold making at h
  split at h
  · rename_i w G1 e1
    split at h
    · rename_i u' e2
      cases h
      exact ⟨_, G1, e1, fun x _ => ⟨u', e2, rfl, rfl⟩⟩
    · cases h
  · rename_i er G1 e1
    cases h
    exact ⟨_, G1, e1, fun x e => by cases e⟩
  · cases h
end
section
variable {X : Cx} {K : PySem.W.Frag} {σ : L2.St} {H : Hp} {μ : Nat → Addr} {ρ : Env} {F F1 F2 : Hp} {G G1 G2 G' : Cs} {r : Except Err Rv} {R : VK} {a : Addr} {u : D}
/-- the address of a cell more -/
abbrev mu1 (μ : Nat → Addr) (l : Nat) (a : Addr) : Nat → Addr := fun i => if i = l then a else μ i
theorem mu1_at {l : Nat} : mu1 μ l a l = a := by show (if l = l then a else μ l) = a; rw [if_pos rfl]
theorem mu1_lt {l i : Nat} (h : i < l) : mu1 μ l a i = μ i := by show (if i = l then a else μ i) = μ i; rw [if_neg (by omega)]
/-- what is made is a new object -/
theorem made_out {Gend : Cs} (f : Fn' X σ μ F1 G' r R) (e : Ex F1 F2) (rp : Rep X.K (mu1 μ G1.length a) F2 Gend H) (hl : Gend.length = G1.length + 1) (hu : Gend[G1.length]? = some u) (er : r = .ok (.n u)) (eg : G' = Gend.take G1.length) : R (.ref a) H := by
  subst eg
  obtain ⟨o1, o2⟩ := rp.at_ G1.length u hu
  rw [mu1_at] at o1 o2
  refine f.k _ er F2 H _ e (rp.take fun l hl => mu1_lt hl) ⟨a, rfl, o1, fun l hl2 z => ?_, o2⟩
  rw [List.length_take] at hl2
  have := rp.inj l G1.length (by omega) (by omega) (by rw [mu1_lt (by omega), mu1_at]; exact z)
  omega
variable {mi : Env → T (List D × Lk)} {mt : Env → T Bool} {md mk : Env → T D} {vs : List Nat} {t : Tg}
/-- one clause's turn -/
def turn1 (vs : List Nat) (t : Tg) (mt : Env → T Bool) (k : Env → T Unit) (ρ : Env) (x : D) : T Unit :=
  T.bind (liftO (putT t x (blkE vs ρ))) fun ρ1 => T.bind (mt ρ1) fun b => cond b (k ρ1) (T.pure ())
theorem addL_ok {l : Nat} {d : D} {G G' : Cs} (h : addL l d G = some (.ok (), G')) : ∃ us, G[l]? = some (.lst us) ∧ us.length < line ∧ G' = G.set l (.lst (us ++ [d])) := by
  unfold addL at h
  split at h
  · rename_i us e
    obtain ⟨c, h⟩ := askO_ok h
    cases h
    exact ⟨us, e, of_decide_eq_true c, rfl⟩
  · cases h
theorem addL_rep {l : Nat} {d : D} {v : V} {D0 : Addr} {us : List D} (rp : Rep K μ F G H) (hl : G[l]? = some (.lst us)) (hD : μ l = D0) (hz : us.length < line) (i : Is K F d v) :
    ∃ acc, H D0 = some (.lst acc) ∧ acc.length < sizeLine ∧ Rep K μ F (G.set l (.lst (us ++ [d]))) (upd H D0 (.lst (acc ++ [v]))) := by
  subst hD
  obtain ⟨o1, acc, h1, h2⟩ := rp.at_ l _ hl
  refine ⟨acc, h1, ?_, rp.setCell hl ⟨acc ++ [v], upd_same, h2.append (.cons i .nil)⟩⟩
  rw [sizeLine_eq, h2.length]
  exact Nat.lt_of_lt_of_le hz (by decide)
theorem drop_cons {α : Type} {xs : List α} {i : Nat} (h : i < xs.length) : xs.drop i = xs[i] :: xs.drop (i + 1) := List.drop_eq_getElem_cons h
/-- [e for t in it if ..] -/
theorem tlc_of (lmi : ∀ ρ, Lc (mi ρ)) (lmt : ∀ ρ, Lc (mt ρ)) (lmd : ∀ ρ, Lc (md ρ)) (hv : ∀ i ∈ t.ix, i ∈ vs)
    (h : tE X (fun ρ => T.bind (mi ρ) fun xs => making (.lst []) fun l => T.each xs.2 (turn1 vs t mt (fun ρ1 => T.bind (md ρ1) fun u => addL l u) ρ) xs.1) σ H R) :
    tLc (tI X mi) (gT X.K t) (tT0 X.K mt) (tD0 X.K md) vs σ H R := by
  obtain ⟨μ, ρ, F, G, r, G', A, hx, fe, k⟩ := h
  refine tM_go A (lmi ρ) hx fe fun p G1 F1 H1 _ h1 h2 h3 hl0 h4 J wk hlk D0 hD => ?_
  obtain ⟨xs, lk⟩ := p
  have fn : Fn' X σ μ F1 G' r R := ⟨h4, fun w e F' H' v e1 rp i => k w e F' H' (h2.trans e1) rp v i⟩
  obtain ⟨r2, Gend, hrun, hend⟩ := making_ok h1
  have hrun : T.each lk (turn1 vs t mt (fun ρ1 => T.bind (md ρ1) fun u => addL G1.length u) ρ) xs (G1 ++ [.lst []]) = some (r2, Gend) := hrun
  have er2 := each_ok xs hrun
  obtain ⟨u', hu', er, eg⟩ := hend () er2
  have nF := h3.rep.sub.none hD
  have rp0 : Rep X.K (mu1 μ G1.length D0) F1 (G1 ++ [.lst []]) (upd H1 D0 (.lst [])) := (h3.rep.new hD).push nF (h3.rep.off hD) ⟨[], upd_same, IsL.nil⟩
  have hμ : ∀ c ∈ lk, mu1 μ G1.length D0 c.1 = μ c.1 := fun c hc => mu1_lt (hlk c hc)
  refine ⟨fun i m H => m = xs.length - i ∧ i ≤ xs.length ∧ ∃ F2 G2, Ex F1 F2 ∧ Rep X.K (mu1 μ G1.length D0) F2 G2 H ∧ G2.length = G1.length + 1 ∧ T.each lk (turn1 vs t mt (fun ρ1 => T.bind (md ρ1) fun u => addL G1.length u) ρ) (xs.drop i) G2 = some (r2, Gend),
    ⟨_, rfl, Nat.zero_le _, F1, _, Ex.refl _, rp0, by rw [List.length_append]; rfl, hrun⟩, ?_⟩
  rintro i m H2 ⟨rfl, hi, F2, G2, e2, rp2, l2, run2⟩
  by_cases hlt : i < xs.length
  · rw [drop_cons hlt] at run2
    obtain ⟨hk, G3, hf, run3⟩ := each_cons run2
    refine .inr ⟨wk.go i _ F2 G2 H2 hlt hμ e2 rp2 hk, fun H' => ∃ F2 G2, Ex F1 F2 ∧ Rep X.K (mu1 μ G1.length D0) F2 G2 H' ∧ G2.length = G1.length + 1 ∧ T.each lk (turn1 vs t mt (fun ρ1 => T.bind (md ρ1) fun u => addL G1.length u) ρ) (xs.drop (i + 1)) G2 = some (r2, Gend),
      fun H' z => ⟨xs.length - (i + 1), by omega, rfl, hlt, z⟩, fun v H3 y => ?_⟩
    obtain ⟨F3, e3, rp3, iv⟩ := wk.yld i _ _ F2 G2 H2 v H3 (List.getElem?_eq_getElem hlt) hμ e2 rp2 hk y
    unfold turn1 at hf
    obtain ⟨ρ1, hp, hf⟩ := liftO_ok hf
    have env3 : EnvOk X (mu1 μ G1.length D0) F3 G2 ρ σ := (h3.env.push (u := .lst [])).mono (e2.trans e3) (by rw [List.length_append, l2]; exact Nat.le_refl _)
    refine putT_ok rp3.sub iv hp fun σ2 up => ⟨by rw [wipe_upd up hv, wipe_wipe], ?_⟩
    have A3 := (blk_at (vs := vs) env3 rp3).upd up
    rcases T.bind_ok hf with ⟨er, _, z⟩ | ⟨b, G4, hb, hf⟩
    · cases z
    · refine ⟨_, ρ1, F3, G2, b, G4, A3, hb, fun F4 H4 e4 rp4 => ?_⟩
      have l4 := lmt ρ1 _ _ _ hb
      cases b with
      | false =>
        cases hf
        simp only [Bool.false_eq_true, if_false]
        exact ⟨F4, _, e2.trans (e3.trans e4), rp4, by rw [l4, l2], run3⟩
      | true =>
        simp only [if_true]
        rcases T.bind_ok hf with ⟨er, _, z⟩ | ⟨d, G5, hd, hf⟩
        · cases z
        · have l5 := lmd ρ1 _ _ _ hd
          refine ⟨_, ρ1, F4, G4, d, G5, A3.mono e4 l4 rp4, hd, fun F5 H5 e5 rp5 v5 i5 => ?_⟩
          obtain ⟨us, g1, g2, rfl⟩ := addL_ok hf
          obtain ⟨acc, a1, a2, a3⟩ := addL_rep rp5 g1 mu1_at g2 i5
          exact ⟨acc, a1, a2, F5, _, e2.trans (e3.trans (e4.trans e5)), a3, by rw [List.length_set, l5, l4, l2], run3⟩
  · have ei : i = xs.length := by omega
    subst ei
    rw [List.drop_length] at run2
    obtain ⟨hk, _, rfl⟩ := each_nil run2
    exact .inl ⟨wk.stop _ _ F2 Gend H2 (Nat.le_refl _) hμ e2 rp2 hk, made_out fn e2 rp2 l2 hu' er eg⟩
end
end L4

set_option Elab.async false
set_option linter.all false
set_option maxRecDepth 100000
set_option maxHeartbeats 4000000
/-! Comprehensions of two clauses; dict comprehensions. -/
namespace L4
open PySem PySem.Spec PyProof.Rows L2
section
variable {X : Cx} {K : PySem.W.Frag} {σ : L2.St} {H : Hp} {μ : Nat → Addr} {ρ : Env} {F F1 F2 : Hp} {G G1 G2 G' : Cs} {r : Except Err Rv} {R : VK} {a : Addr} {u : D}
variable {mi mi1 : Env → T (List D × Lk)} {mt mt1 : Env → T Bool} {md mk : Env → T D} {vs vs1 : List Nat} {t t1 : Tg}
theorem wipe_none {vs : List Nat} {ρ : Env} : ∀ {i : Nat}, i ∈ vs → ∀ w, (wipe ρ vs)[i]? ≠ some (some w) := by
  induction vs with
  | nil => intro i h; cases h
  | cons v vs ih =>
    intro i h w e
    unfold wipe at e
    by_cases hv : v = i
    · subst hv
      by_cases hl : v < (wipe ρ vs).length
      · rw [List.getElem?_set_self hl] at e; cases e
      · rw [List.getElem?_eq_none (by rw [List.length_set]; omega)] at e; cases e
    · rw [List.getElem?_set_ne hv] at e
      rcases List.mem_cons.mp h with h | h
      · exact hv h.symm
      · exact ih h w e
theorem wipe_len {vs : List Nat} {ρ : Env} : (wipe ρ vs).length = ρ.length := by
  induction vs with
  | nil => rfl
  | cons v vs ih => unfold wipe; rw [List.length_set, ih]
theorem wipe_some' {vs : List Nat} {ρ : Env} : ∀ {i : Nat} {w : Rv}, (wipe ρ vs)[i]? = some (some w) → ρ[i]? = some (some w) := by
  induction vs with
  | nil => intro i w h; exact h
  | cons v vs ih =>
    intro i w e
    unfold wipe at e
    by_cases hv : v = i
    · subst hv
      by_cases hl : v < (wipe ρ vs).length
      · rw [List.getElem?_set_self hl] at e; cases e
      · rw [List.getElem?_eq_none (by rw [List.length_set]; omega)] at e; cases e
    · rw [List.getElem?_set_ne hv] at e; exact ih e
theorem At0.wipe (h : At0 K σ H μ ρ F G) (vs : List Nat) : At0 K (L2.wipe σ vs) H μ (wipe ρ vs) F G := by
  refine ⟨by rw [wipe_len, wipe_length]; exact h.len, fun i w hw => ?_, h.rep⟩
  obtain ⟨v, h1, h2⟩ := h.at_ i w (wipe_some' hw)
  refine ⟨v, ?_, h2⟩
  rw [wipe_at, if_neg fun z => wipe_none z w hw]
  exact h1
/-- [e for t in it if .. for t1 in it1 if ..] -/
theorem tlc2_of (lmi : ∀ ρ, Lc (mi ρ)) (lmt : ∀ ρ, Lc (mt ρ)) (lmi1 : ∀ ρ, Lc (mi1 ρ)) (lmt1 : ∀ ρ, Lc (mt1 ρ)) (lmd : ∀ ρ, Lc (md ρ)) (hv : ∀ i ∈ t.ix, i ∈ vs) (hv1 : ∀ i ∈ t1.ix, i ∈ vs1)
    (h : tE X (fun ρ => T.bind (mi ρ) fun xs => making (.lst []) fun l => T.each xs.2 (fun x => T.bind (liftO (putT t x (blkE vs ρ))) fun ρ1 => T.bind (mt ρ1) fun b =>
      cond b (T.bind (mi1 ρ1) fun ys => T.each ys.2 (fun y => T.bind (liftO (putT t1 y (wipe ρ1 vs1))) fun ρ2 => T.bind (mt1 ρ2) fun b1 => cond b1 (T.bind (md ρ2) fun u => addL l u) (T.pure ())) ys.1) (T.pure ())) xs.1) σ H R) :
    tLc2 (tI X mi) (gT X.K t) (tT0 X.K mt) (tI0 X.K mi1) (gT X.K t1) (tT0 X.K mt1) (tD0 X.K md) vs vs1 σ H R := by
  obtain ⟨μ, ρ, F, G, r, G', A, hx, fe, k⟩ := h
  refine tM_go A (lmi ρ) hx fe fun p G1 F1 H1 _ h1 h2 h3 hl0 h4 J wk hlk D0 hD => ?_
  obtain ⟨xs, lk⟩ := p
  have fn : Fn' X σ μ F1 G' r R := ⟨h4, fun w e F' H' v e1 rp i => k w e F' H' (h2.trans e1) rp v i⟩
  obtain ⟨r2, Gend, hrun, hend⟩ := making_ok h1
  generalize hf1 : (fun x => T.bind (liftO (putT t x (blkE vs ρ))) fun ρ1 => T.bind (mt ρ1) fun b =>
      cond b (T.bind (mi1 ρ1) fun ys => T.each ys.2 (fun y => T.bind (liftO (putT t1 y (wipe ρ1 vs1))) fun ρ2 => T.bind (mt1 ρ2) fun b1 => cond b1 (T.bind (md ρ2) fun u => addL G1.length u) (T.pure ())) ys.1) (T.pure ())) = f1 at hrun
  have hrun : T.each lk f1 xs (G1 ++ [.lst []]) = some (r2, Gend) := hrun
  have er2 := each_ok xs hrun
  obtain ⟨u', hu', er, eg⟩ := hend () er2
  have nF := h3.rep.sub.none hD
  have rp0 : Rep X.K (mu1 μ G1.length D0) F1 (G1 ++ [.lst []]) (upd H1 D0 (.lst [])) := (h3.rep.new hD).push nF (h3.rep.off hD) ⟨[], upd_same, IsL.nil⟩
  have hμ : ∀ c ∈ lk, mu1 μ G1.length D0 c.1 = μ c.1 := fun c hc => mu1_lt (hlk c hc)
  refine ⟨fun i m H => m = xs.length - i ∧ i ≤ xs.length ∧ ∃ F2 G2, Ex F1 F2 ∧ Rep X.K (mu1 μ G1.length D0) F2 G2 H ∧ G2.length = G1.length + 1 ∧ T.each lk f1 (xs.drop i) G2 = some (r2, Gend),
    ⟨_, rfl, Nat.zero_le _, F1, _, Ex.refl _, rp0, by rw [List.length_append]; rfl, hrun⟩, ?_⟩
  rintro i m H2 ⟨rfl, hi, F2, G2, e2, rp2, l2, run2⟩
  by_cases hlt : i < xs.length
  · rw [drop_cons hlt] at run2
    obtain ⟨hk, G3, hf, run3⟩ := each_cons run2
    refine .inr ⟨wk.go i _ F2 G2 H2 hlt hμ e2 rp2 hk, fun H' => ∃ F2 G2, Ex F1 F2 ∧ Rep X.K (mu1 μ G1.length D0) F2 G2 H' ∧ G2.length = G1.length + 1 ∧ T.each lk f1 (xs.drop (i + 1)) G2 = some (r2, Gend),
      fun H' z => ⟨xs.length - (i + 1), by omega, rfl, hlt, z⟩, fun v H3 y => ?_⟩
    obtain ⟨F3, e3, rp3, iv⟩ := wk.yld i _ _ F2 G2 H2 v H3 (List.getElem?_eq_getElem hlt) hμ e2 rp2 hk y
    rw [← hf1] at hf
    obtain ⟨ρ1, hp, hf⟩ := liftO_ok hf
    have env3 : EnvOk X (mu1 μ G1.length D0) F3 G2 ρ σ := (h3.env.push (u := .lst [])).mono (e2.trans e3) (by rw [List.length_append, l2]; exact Nat.le_refl _)
    refine putT_ok rp3.sub iv hp fun σ2 up => ⟨by rw [wipe_upd up hv, wipe_wipe], ?_⟩
    have A3 := (blk_at (vs := vs) env3 rp3).upd up
    rcases T.bind_ok hf with ⟨er, _, z⟩ | ⟨b, G4, hb, hf⟩
    · cases z
    · refine ⟨_, ρ1, F3, G2, b, G4, A3, hb, fun F4 H4 e4 rp4 => ?_⟩
      have l4 := lmt ρ1 _ _ _ hb
      cases b with
      | false =>
        cases hf
        simp only [Bool.false_eq_true, if_false]
        exact ⟨F4, _, e2.trans (e3.trans e4), rp4, by rw [l4, l2], run3⟩
      | true =>
        simp only [if_true]
        rcases T.bind_ok hf with ⟨er, _, z⟩ | ⟨p1, G5, hd, hf⟩
        · cases z
        · have l5 := lmi1 ρ1 _ _ _ hd
          have A4 := A3.mono e4 l4 rp4
          refine ⟨_, ρ1, F4, G4, p1, G5, A4, hd, fun F5 H5 e5 rp5 J1 wk1 hlk1 => ?_⟩
          obtain ⟨ys, lk1⟩ := p1
          have A5 : At0 X.K σ2 H5 (mu1 μ G1.length D0) ρ1 F5 G5 := A4.mono e5 l5 rp5
          generalize hf2 : (fun y => T.bind (liftO (putT t1 y (wipe ρ1 vs1))) fun ρ2 => T.bind (mt1 ρ2) fun b1 => cond b1 (T.bind (md ρ2) fun u => addL G1.length u) (T.pure ())) = f2 at hf
          have hf : T.each lk1 f2 ys G5 = some (.ok (), G3) := hf
          refine ⟨fun j m H => m = ys.length - j ∧ j ≤ ys.length ∧ ∃ F6 G6, Ex F5 F6 ∧ Rep X.K (mu1 μ G1.length D0) F6 G6 H ∧ G6.length = G1.length + 1 ∧ T.each lk1 f2 (ys.drop j) G6 = some (.ok (), G3), ⟨_, rfl, Nat.zero_le _, F5, G5, Ex.refl _, rp5, by rw [l5, l4, l2], hf⟩, ?_⟩
          rintro j m2 H6 ⟨rfl, hj, F6, G6, e6, rp6, l6, run6⟩
          by_cases hjt : j < ys.length
          · rw [drop_cons hjt] at run6
            obtain ⟨hk6, G7, hg, run7⟩ := each_cons run6
            refine .inr ⟨wk1.go j _ F6 G6 H6 hjt (fun _ _ => rfl) e6 rp6 hk6, fun H' => ∃ F6 G6, Ex F5 F6 ∧ Rep X.K (mu1 μ G1.length D0) F6 G6 H' ∧ G6.length = G1.length + 1 ∧ T.each lk1 f2 (ys.drop (j + 1)) G6 = some (.ok (), G3),
              fun H' z => ⟨ys.length - (j + 1), by omega, rfl, hjt, z⟩, fun v1 H7 y1 => ?_⟩
            obtain ⟨F7, e7, rp7, iv7⟩ := wk1.yld j _ _ F6 G6 H6 v1 H7 (List.getElem?_eq_getElem hjt) (fun _ _ => rfl) e6 rp6 hk6 y1
            rw [← hf2] at hg
            obtain ⟨ρ2, hp2, hg⟩ := liftO_ok hg
            have A7 : At0 X.K σ2 H7 (mu1 μ G1.length D0) ρ1 F7 G6 := A5.mono (e6.trans e7) (by rw [l6, l5, l4, l2]) rp7
            refine putT_ok rp7.sub iv7 hp2 fun σ3 up2 => ⟨by rw [wipe_upd up2 hv1, wipe_wipe], ?_⟩
            have A8 := (A7.wipe vs1).upd up2
            rcases T.bind_ok hg with ⟨er, _, z⟩ | ⟨b1, G8, hb1, hg⟩
            · cases z
            · refine ⟨_, ρ2, F7, G6, b1, G8, A8, hb1, fun F8 H8 e8 rp8 => ?_⟩
              have l8 := lmt1 ρ2 _ _ _ hb1
              cases b1 with
              | false =>
                cases hg
                simp only [Bool.false_eq_true, if_false]
                exact ⟨F8, _, e6.trans (e7.trans e8), rp8, by rw [l8, l6], run7⟩
              | true =>
                simp only [if_true]
                rcases T.bind_ok hg with ⟨er, _, z⟩ | ⟨d, G9, hd9, hg⟩
                · cases z
                · have l9 := lmd ρ2 _ _ _ hd9
                  refine ⟨_, ρ2, F8, G8, d, G9, A8.mono e8 l8 rp8, hd9, fun F9 H9 e9 rp9 v9 i9 => ?_⟩
                  obtain ⟨us, g1, g2, rfl⟩ := addL_ok hg
                  obtain ⟨acc, a1, a2, a3⟩ := addL_rep rp9 g1 mu1_at g2 i9
                  exact ⟨acc, a1, a2, F9, _, e6.trans (e7.trans (e8.trans e9)), a3, by rw [List.length_set, l9, l8, l6], run7⟩
          · have ej : j = ys.length := by omega
            subst ej
            rw [List.drop_length] at run6
            obtain ⟨hk6, _, rfl⟩ := each_nil run6
            exact .inl ⟨wk1.stop _ _ F6 G3 H6 (Nat.le_refl _) (fun _ _ => rfl) e6 rp6 hk6, F6, G3, e2.trans (e3.trans (e4.trans (e5.trans e6))), rp6, l6, run3⟩
  · have ei : i = xs.length := by omega
    subst ei
    rw [List.drop_length] at run2
    obtain ⟨hk, _, rfl⟩ := each_nil run2
    exact .inl ⟨wk.stop _ _ F2 Gend H2 (Nat.le_refl _) hμ e2 rp2 hk, made_out fn e2 rp2 l2 hu' er eg⟩
/-! ### a dict in the making -/
theorem addD_ok {l : Nat} {y d : D} {G G' : Cs} (h : addD l y d G = some (.ok (), G')) : ∃ ks us k, G[l]? = some (.dK ks us) ∧ toKey y = some k ∧ ks.length < line ∧ G' = G.set l (.dK (put_ k d ks us).1 (put_ k d ks us).2) := by
  unfold addD at h
  split at h
  · rename_i ks us k e1 e2
    obtain ⟨c, h⟩ := askO_ok h
    cases h
    exact ⟨ks, us, k, e1, e2, of_decide_eq_true c, rfl⟩
  · cases h
theorem any_mem {k : Key} : ∀ {ks : List Key} {vs : List V}, ks.length = vs.length → ((ks.zip vs).any fun kv => decide (kv.1 = k)) = ks.any fun k' => decide (k' = k)
  | [], _, _ => by simp
  | k' :: ks, [], h => by cases h
  | k' :: ks, v :: vs, h => by
    rw [List.zip_cons_cons, List.any_cons, List.any_cons, any_mem (by simpa using h)]
theorem put_rep {k : Key} {d : D} {v : V} : ∀ {ks : List Key} {ds : List D} {vs : List V}, ks.length = vs.length → IsL K F ds vs → Is K F d v →
    ∃ us, putK (ks.zip vs) k v = (put_ k d ks ds).1.zip us ∧ (put_ k d ks ds).1.length = us.length ∧ IsL K F (put_ k d ks ds).2 us := fun {ks ds vs} hl hi i => by
  unfold putK put_
  rw [any_mem hl]
  by_cases hk : (ks.any fun k' => decide (k' = k)) = true
  · rw [if_pos hk, if_pos hk]
    dsimp only
    have go : ∀ {ks : List Key} {ds : List D} {vs : List V}, ks.length = vs.length → IsL K F ds vs → ∃ us, ((ks.zip vs).map fun kv => if kv.1 = k then (kv.1, v) else kv) = ks.zip us ∧ ks.length = us.length ∧ IsL K F ((ks.zip ds).map fun p => if p.1 = k then d else p.2) us := by
      intro ks
      induction ks with
      | nil => intro ds vs hl hi; exact ⟨[], rfl, rfl, IsL.nil⟩
      | cons k' ks ih =>
        intro ds vs hl hi
        cases vs with
        | nil => cases hl
        | cons v' vs =>
          cases ds with
          | nil => cases hi
          | cons d' ds =>
            obtain ⟨v2, r, e, i1, i2⟩ := hi
            cases e
            obtain ⟨us, e1, e2, e3⟩ := ih (by simpa using hl) i2
            refine ⟨(if k' = k then v else v') :: us, ?_, by rw [List.length_cons, List.length_cons, e2], ?_⟩
            · rw [List.zip_cons_cons, List.map_cons, List.zip_cons_cons, e1]
              congr 1
              dsimp only
              split <;> rfl
            · rw [List.zip_cons_cons, List.map_cons]
              refine .cons ?_ e3
              dsimp only
              split
              · exact i
              · exact i1
    exact go hl hi
  · rw [if_neg hk, if_neg hk]
    refine ⟨vs ++ [v], ?_, by rw [List.length_append, List.length_append, hl]; rfl, hi.append (.cons i .nil)⟩
    dsimp only
    rw [List.zip_append hl]
    rfl
theorem addD_rep {l : Nat} {y d : D} {v w : V} {D0 : Addr} {ks : List Key} {us : List D} {k : Key} (rp : Rep K μ F G H) (hl : G[l]? = some (.dK ks us)) (hD : μ l = D0) (hz : ks.length < line) (hk : toKey y = some k) (iy : Is K F y w) (i : Is K F d v) :
    ∃ kvs, w = kV k ∧ H D0 = some (.dK kvs) ∧ kvs.length < sizeLine ∧ Rep K μ F (G.set l (.dK (put_ k d ks us).1 (put_ k d ks us).2)) (upd H D0 (.dK (putK kvs k v))) := by
  subst hD
  obtain ⟨o1, vs, h1, h2, h3⟩ := rp.at_ l _ hl
  obtain ⟨us', e1, e2, e3⟩ := put_rep (k := k) h2 h3 i
  refine ⟨_, toKey_ok hk (Is.sees rp.sub iy), h1, ?_, rp.setCell hl ⟨us', by rw [upd_same, e1], e2, e3⟩⟩
  rw [sizeLine_eq, List.length_zip]
  have : line = 1000000 := rfl
  omega
/-- {k: e for t in it if ..} -/
theorem tdc_of (lmi : ∀ ρ, Lc (mi ρ)) (lmt : ∀ ρ, Lc (mt ρ)) (lmk : ∀ ρ, Lc (mk ρ)) (lmd : ∀ ρ, Lc (md ρ)) (hv : ∀ i ∈ t.ix, i ∈ vs)
    (h : tE X (fun ρ => T.bind (mi ρ) fun xs => making (.dK [] []) fun l => T.each xs.2 (turn1 vs t mt (fun ρ1 => T.bind (mk ρ1) fun y => T.bind (md ρ1) fun u => addD l y u) ρ) xs.1) σ H R) :
    tDc (tI X mi) (gT X.K t) (tT0 X.K mt) (tD0 X.K mk) (tD0 X.K md) vs σ H R := by
  obtain ⟨μ, ρ, F, G, r, G', A, hx, fe, k⟩ := h
  refine tM_go A (lmi ρ) hx fe fun p G1 F1 H1 _ h1 h2 h3 hl0 h4 J wk hlk D0 hD => ?_
  obtain ⟨xs, lk⟩ := p
  have fn : Fn' X σ μ F1 G' r R := ⟨h4, fun w e F' H' v e1 rp i => k w e F' H' (h2.trans e1) rp v i⟩
  obtain ⟨r2, Gend, hrun, hend⟩ := making_ok h1
  generalize hf1 : turn1 vs t mt (fun ρ1 => T.bind (mk ρ1) fun y => T.bind (md ρ1) fun u => addD G1.length y u) ρ = f1 at hrun
  have hrun : T.each lk f1 xs (G1 ++ [.dK [] []]) = some (r2, Gend) := hrun
  have er2 := each_ok xs hrun
  obtain ⟨u', hu', er, eg⟩ := hend () er2
  have nF := h3.rep.sub.none hD
  have rp0 : Rep X.K (mu1 μ G1.length D0) F1 (G1 ++ [.dK [] []]) (upd H1 D0 (.dK [])) := (h3.rep.new hD).push nF (h3.rep.off hD) ⟨[], upd_same, rfl, IsL.nil⟩
  have hμ : ∀ c ∈ lk, mu1 μ G1.length D0 c.1 = μ c.1 := fun c hc => mu1_lt (hlk c hc)
  refine ⟨fun i m H => m = xs.length - i ∧ i ≤ xs.length ∧ ∃ F2 G2, Ex F1 F2 ∧ Rep X.K (mu1 μ G1.length D0) F2 G2 H ∧ G2.length = G1.length + 1 ∧ T.each lk f1 (xs.drop i) G2 = some (r2, Gend),
    ⟨_, rfl, Nat.zero_le _, F1, _, Ex.refl _, rp0, by rw [List.length_append]; rfl, hrun⟩, ?_⟩
  rintro i m H2 ⟨rfl, hi, F2, G2, e2, rp2, l2, run2⟩
  by_cases hlt : i < xs.length
  · rw [drop_cons hlt] at run2
    obtain ⟨hk, G3, hf, run3⟩ := each_cons run2
    refine .inr ⟨wk.go i _ F2 G2 H2 hlt hμ e2 rp2 hk, fun H' => ∃ F2 G2, Ex F1 F2 ∧ Rep X.K (mu1 μ G1.length D0) F2 G2 H' ∧ G2.length = G1.length + 1 ∧ T.each lk f1 (xs.drop (i + 1)) G2 = some (r2, Gend),
      fun H' z => ⟨xs.length - (i + 1), by omega, rfl, hlt, z⟩, fun v H3 y => ?_⟩
    obtain ⟨F3, e3, rp3, iv⟩ := wk.yld i _ _ F2 G2 H2 v H3 (List.getElem?_eq_getElem hlt) hμ e2 rp2 hk y
    rw [← hf1] at hf
    unfold turn1 at hf
    obtain ⟨ρ1, hp, hf⟩ := liftO_ok hf
    have env3 : EnvOk X (mu1 μ G1.length D0) F3 G2 ρ σ := (h3.env.push (u := .dK [] [])).mono (e2.trans e3) (by rw [List.length_append, l2]; exact Nat.le_refl _)
    refine putT_ok rp3.sub iv hp fun σ2 up => ⟨by rw [wipe_upd up hv, wipe_wipe], ?_⟩
    have A3 := (blk_at (vs := vs) env3 rp3).upd up
    rcases T.bind_ok hf with ⟨er, _, z⟩ | ⟨b, G4, hb, hf⟩
    · cases z
    · refine ⟨_, ρ1, F3, G2, b, G4, A3, hb, fun F4 H4 e4 rp4 => ?_⟩
      have l4 := lmt ρ1 _ _ _ hb
      cases b with
      | false =>
        cases hf
        simp only [Bool.false_eq_true, if_false]
        exact ⟨F4, _, e2.trans (e3.trans e4), rp4, by rw [l4, l2], run3⟩
      | true =>
        simp only [if_true]
        rcases T.bind_ok hf with ⟨er, _, z⟩ | ⟨y, G5, hd, hf⟩
        · cases z
        · have l5 := lmk ρ1 _ _ _ hd
          have A4 := A3.mono e4 l4 rp4
          refine ⟨_, ρ1, F4, G4, y, G5, A4, hd, fun F5 H5 e5 rp5 v5 i5 => ?_⟩
          rcases T.bind_ok hf with ⟨er, _, z⟩ | ⟨d, G6, hd6, hf⟩
          · cases z
          · have l6 := lmd ρ1 _ _ _ hd6
            refine ⟨_, ρ1, F5, G5, d, G6, A4.mono e5 l5 rp5, hd6, fun F6 H6 e6 rp6 v6 i6 => ?_⟩
            obtain ⟨ks, us, k0, g1, g2, g3, rfl⟩ := addD_ok hf
            obtain ⟨kvs, a0, a1, a2, a3⟩ := addD_rep rp6 g1 mu1_at g3 g2 (i5.mono e6) i6
            exact ⟨kvs, k0, a0, a1, a2, F6, _, e2.trans (e3.trans (e4.trans (e5.trans e6))), a3, by rw [List.length_set, l6, l5, l4, l2], run3⟩
  · have ei : i = xs.length := by omega
    subst ei
    rw [List.drop_length] at run2
    obtain ⟨hk, _, rfl⟩ := each_nil run2
    exact .inl ⟨wk.stop _ _ F2 Gend H2 (Nat.le_refl _) hμ e2 rp2 hk, made_out fn e2 rp2 l2 hu' er eg⟩
end
end L4

set_option Elab.async false
set_option linter.all false
set_option maxRecDepth 100000
set_option maxHeartbeats 4000000
/-! Statements. -/
namespace L4
open PySem PySem.Spec PyProof.Rows L2
/-- what is wanted behind a statement that ends so -/
def Wants (X : Cx) (D : Ends) (b : Nat) (μ0 : Nat → Addr) (F0 : Hp) (o : Out) (ρ1 : Env) (G1 : Cs) : Prop := match o with
  | .nx => ∀ σ' H' μ' F', Ex F0 F' → (∀ l, l < b → μ' l = μ0 l) → At X σ' H' μ' ρ1 F' G1 → D.nx σ' H'
  | .brk => ∀ σ' H' μ' F', Ex F0 F' → (∀ l, l < b → μ' l = μ0 l) → At X σ' H' μ' ρ1 F' G1 → D.bk σ' H'
  | .cnt => ∀ σ' H' μ' F', Ex F0 F' → (∀ l, l < b → μ' l = μ0 l) → At X σ' H' μ' ρ1 F' G1 → D.ct σ' H'
  | .ret w => ∀ H' μ' F' v, Ex F0 F' → (∀ l, l < b → μ' l = μ0 l) → Rep X.K μ' F' G1 H' → IsW X μ' F' G1 H' w v → D.rt v H'
  | .exc er => ∃ W, Takes X W ∧ ∀ σ' H' μ' F' cls d, Ex F0 F' → (∀ l, l < b → μ' l = μ0 l) → At X σ' H' μ' ρ1 F' G1 → IsE X.K F' er cls d → W cls d σ' H'
def tS (X : Cx) (m : Nat → Env → Cs → TS) : L2.TS := fun D σ H => ∃ (b : Nat) (μ : Nat → Addr) (ρ : Env) (F : Hp) (G : Cs) (o : Out) (ρ1 : Env) (G1 : Cs), At X σ H μ ρ F G ∧ b ≤ G.length ∧ m b ρ G = some (o, ρ1, G1) ∧ Wants X D b μ F o ρ1 G1
abbrev Ws (X : Cx) (st : Stmt) (m : Nat → Env → Cs → TS) : Prop := PS X st (tS X m)
abbrev Wss (X : Cx) (sts : List Stmt) (m : Nat → Env → Cs → TS) : Prop := PSs X sts (tS X m)
theorem lift_ok {α : Type} {m : T α} {ρ ρ1 : Env} {G G' : Cs} {k : α → Cs → TS} {o : Out} (h : lift m ρ G k = some (o, ρ1, G')) : (∃ er, m G = some (.error er, G') ∧ o = .exc er ∧ ρ1 = ρ) ∨ ∃ x G1, m G = some (.ok x, G1) ∧ k x G1 = some (o, ρ1, G') := by
  unfold lift at h
  split at h
  · cases h
  · rename_i er G1 e; cases h; exact .inl ⟨er, e, rfl, rfl⟩
  · rename_i x G1 e; exact .inr ⟨x, G1, e, h⟩
section
variable {X : Cx} {σ : L2.St} {H : Hp} {μ μ1 : Nat → Addr} {ρ ρ1 : Env} {F F1 : Hp} {G G1 G' : Cs} {e a c o : Expr} {ma mb mc : Env → T Rv} {pins : List (Addr × Obj)} {s : Shared} {τ : Tb} {q : Bool} {n : Nat} {pos p p2 : Pos} {x f : Str} {D D' : Ends} {b b' : Nat} {ou : Out} {st : Stmt} {sts : List Stmt} {m m1 m2 : Nat → Env → Cs → TS}
theorem Wants.mono (h : Wants X D b μ F ou ρ1 G1) (e : Ex F F1) (hμ : ∀ l, l < b → μ1 l = μ l) (hb : b ≤ b') : Wants X D b' μ1 F1 ou ρ1 G1 := by
  cases ou with
  | nx => exact fun σ' H' μ' F' e' a A => h σ' H' μ' F' (e.trans e') (fun l hl => (a l (Nat.lt_of_lt_of_le hl hb)).trans (hμ l hl)) A
  | brk => exact fun σ' H' μ' F' e' a A => h σ' H' μ' F' (e.trans e') (fun l hl => (a l (Nat.lt_of_lt_of_le hl hb)).trans (hμ l hl)) A
  | cnt => exact fun σ' H' μ' F' e' a A => h σ' H' μ' F' (e.trans e') (fun l hl => (a l (Nat.lt_of_lt_of_le hl hb)).trans (hμ l hl)) A
  | ret w => exact fun H' μ' F' v e' a rp i => h H' μ' F' v (e.trans e') (fun l hl => (a l (Nat.lt_of_lt_of_le hl hb)).trans (hμ l hl)) rp i
  | exc er =>
    obtain ⟨W, tk, hW⟩ := h
    exact ⟨W, tk, fun σ' H' μ' F' cls d e' a A ie => hW σ' H' μ' F' cls d (e.trans e') (fun l hl => (a l (Nat.lt_of_lt_of_le hl hb)).trans (hμ l hl)) A ie⟩
theorem Wants.up (h : Wants X D b μ F ou ρ1 G1) (e : Ex F F1) : Wants X D b μ F1 ou ρ1 G1 := h.mono e (fun _ _ => rfl) (Nat.le_refl _)
theorem Wants.ends (h : Wants X D b μ F ou ρ1 G1) (h1 : ou = .nx → ∀ σ H, D.nx σ H → D'.nx σ H) (h2 : ou = .brk → ∀ σ H, D.bk σ H → D'.bk σ H) (h3 : ou = .cnt → ∀ σ H, D.ct σ H → D'.ct σ H) (h4 : ∀ w, ou = .ret w → ∀ v H, D.rt v H → D'.rt v H) : Wants X D' b μ F ou ρ1 G1 := by
  cases ou with
  | nx => exact fun σ' H' μ' F' e' a A => h1 rfl _ _ (h σ' H' μ' F' e' a A)
  | brk => exact fun σ' H' μ' F' e' a A => h2 rfl _ _ (h σ' H' μ' F' e' a A)
  | cnt => exact fun σ' H' μ' F' e' a A => h3 rfl _ _ (h σ' H' μ' F' e' a A)
  | ret w => exact fun H' μ' F' v e' a rp i => h4 w rfl _ _ (h H' μ' F' v e' a rp i)
  | exc er => exact h
/-- an expression first -/
theorem tM_lift {α : Type} {m : Env → T α} {k : α → Cs → TS} {R : (Nat → Addr) → Hp → Cs → Hp → α → Prop} (A : At X σ H μ ρ F G) (lm : Lc (m ρ)) (hx : lift (m ρ) ρ G k = some (ou, ρ1, G')) (wt : Wants X D b μ F ou ρ1 G')
    (next : ∀ x G1 F1 H1, m ρ G = some (.ok x, G1) → k x G1 = some (ou, ρ1, G') → Ex F F1 → At X σ H1 μ ρ F1 G1 → G1.length = G.length → Wants X D b μ F1 ou ρ1 G' → R μ F1 G1 H1 x) : tM X m σ H R := by
  rcases lift_ok hx with ⟨er, h1, rfl, rfl⟩ | ⟨x, G1, h1, h2⟩
  · refine ⟨μ, _, F, G, _, G', A, h1, fun er' q => ?_, fun w q => by cases q⟩
    cases q
    obtain ⟨W, tk, hW⟩ := wt
    exact ⟨W, tk, fun F' H' cls d e' rp ie => hW σ H' μ F' cls d e' (fun _ _ => rfl) (A.on e' rp (lm _ _ _ h1)) ie⟩
  · refine ⟨μ, ρ, F, G, .ok x, G1, A, h1, FinE.ok, fun w q F' H' e' rp => ?_⟩
    cases q
    exact next _ _ _ _ h1 h2 e' (A.on e' rp (lm _ _ _ h1)) (lm _ _ _ h1) (wt.up e')
theorem wss_nil : Wss X [] (fun _ ρ G => some (.nx, ρ, G)) := by
  refine ⟨fun pins s σ H D I h => ?_⟩
  obtain ⟨b, μ, ρ, F, G, ou, ρ1, G1, A, hb, hx, wt⟩ := h
  cases hx
  exact pss_nil.run pins s σ H D I (wt σ H μ F (Ex.refl F) (fun _ _ => rfl) A)
theorem wss_cons (h1 : Ws X st m1) (h2 : Wss X sts m2) (gw : ∀ b ρ G, Gw (m1 b ρ G) G.length) : Wss X (st :: sts) (fun b ρ G => match m1 b ρ G with | some (.nx, ρ1, G1) => m2 b ρ1 G1 | r => r) := by
  refine ⟨fun pins s σ H D I h => ?_⟩
  obtain ⟨b, μ, ρ, F, G, ou, ρ1, G1, A, hb, hx, wt⟩ := h
  refine (pss_cons h1 h2).run pins s σ H D I ?_
  dsimp only at hx
  cases hm : m1 b ρ G with
  | none => rw [hm] at hx; cases hx
  | some p =>
    obtain ⟨o1, ρ2, G2⟩ := p
    rw [hm] at hx
    have lg := gw b ρ G _ _ _ hm
    cases o1 with
    | nx =>
      refine ⟨b, μ, ρ, F, G, .nx, ρ2, G2, A, hb, hm, fun σ' H' μ' F' e' hμ A' => ?_⟩
      exact ⟨b, μ', ρ2, F', G2, ou, ρ1, G1, A', Nat.le_trans hb lg, hx, wt.mono e' hμ (Nat.le_refl _)⟩
    | brk => cases hx; exact ⟨b, μ, ρ, F, G, _, _, _, A, hb, hm, wt⟩
    | cnt => cases hx; exact ⟨b, μ, ρ, F, G, _, _, _, A, hb, hm, wt⟩
    | ret w => cases hx; exact ⟨b, μ, ρ, F, G, _, _, _, A, hb, hm, wt⟩
    | exc er => cases hx; exact ⟨b, μ, ρ, F, G, _, _, _, A, hb, hm, wt⟩
theorem ws_ex (he : Wx X e ma) (la : ∀ ρ, Lc (ma ρ)) (hs : swapsWith e none pos.line X.env = pure false) : Ws X (.Expr e pos) (fun b ρ G => lift (ma ρ) ρ G fun _ G1 => some (.nx, ρ, G1)) := by
  refine ⟨fun pins s σ H D I h => ?_⟩
  obtain ⟨b, μ, ρ, F, G, ou, ρ1, G1, A, hb, hx, wt⟩ := h
  refine (ps_expr he hs).run pins s σ H D I (tM_lift A (la ρ) hx wt fun x G2 F2 H2 _ h1 h2 h3 hl h4 v i => ?_)
  cases h1
  exact h4 σ H2 μ F2 (Ex.refl _) (fun _ _ => rfl) h3
theorem ws_ret (he : Wx X e ma) (la : ∀ ρ, Lc (ma ρ)) : Ws X (.Return (some e) pos) (fun b ρ G => lift (ma ρ) ρ G fun w G1 => some (.ret w, ρ, G1)) := by
  refine ⟨fun pins s σ H D I h => ?_⟩
  obtain ⟨b, μ, ρ, F, G, ou, ρ1, G1, A, hb, hx, wt⟩ := h
  refine (ps_ret he).run pins s σ H D I (tM_lift A (la ρ) hx wt fun x G2 F2 H2 _ h1 h2 h3 hl h4 v i => ?_)
  cases h1
  exact h4 H2 μ F2 v (Ex.refl _) (fun _ _ => rfl) h3.rep i
theorem ws_retN : Ws X (.Return none pos) (fun _ ρ G => some (.ret (.d .non), ρ, G)) := by
  refine ⟨fun pins s σ H D I h => ?_⟩
  obtain ⟨b, μ, ρ, F, G, ou, ρ1, G1, A, hb, hx, wt⟩ := h
  cases hx
  exact ps_retN.run pins s σ H D I (wt H μ F .non (Ex.refl _) (fun _ _ => rfl) A.rep rfl)
theorem ws_pas : Ws X (.Pass pos) (fun _ ρ G => some (.nx, ρ, G)) := by
  refine ⟨fun pins s σ H D I h => ?_⟩
  obtain ⟨b, μ, ρ, F, G, ou, ρ1, G1, A, hb, hx, wt⟩ := h
  cases hx
  exact ps_pass.run pins s σ H D I (wt σ H μ F (Ex.refl _) (fun _ _ => rfl) A)
theorem ws_brk : Ws X (.Break pos) (fun _ ρ G => some (.brk, ρ, G)) := by
  refine ⟨fun pins s σ H D I h => ?_⟩
  obtain ⟨b, μ, ρ, F, G, ou, ρ1, G1, A, hb, hx, wt⟩ := h
  cases hx
  exact ps_break.run pins s σ H D I (wt σ H μ F (Ex.refl _) (fun _ _ => rfl) A)
theorem ws_cnt : Ws X (.Continue pos) (fun _ ρ G => some (.cnt, ρ, G)) := by
  refine ⟨fun pins s σ H D I h => ?_⟩
  obtain ⟨b, μ, ρ, F, G, ou, ρ1, G1, A, hb, hx, wt⟩ := h
  cases hx
  exact ps_continue.run pins s σ H D I (wt σ H μ F (Ex.refl _) (fun _ _ => rfl) A)
theorem ws_ite {mt : Env → T Bool} {sa sb : List Stmt} (hc : Wt X c mt (eval c X.env)) (lc : ∀ ρ, Lc (mt ρ)) (ha : Wss X sa m1) (hbb : Wss X sb m2) : Ws X (.If c sa sb pos) (fun b ρ G => lift (mt ρ) ρ G fun t G1 => cond t (m1 b ρ G1) (m2 b ρ G1)) := by
  refine ⟨fun pins s σ H D I h => ?_⟩
  obtain ⟨b, μ, ρ, F, G, ou, ρ1, G1, A, hb, hx, wt⟩ := h
  refine (ps_if (tc := tT X mt) ⟨hc.run⟩ ha hbb).run pins s σ H D I (tM_lift A (lc ρ) hx wt fun x G2 F2 H2 _ h1 h2 h3 hl h4 => ?_)
  cases x with
  | true =>
    rw [if_pos rfl]
    exact ⟨b, μ, ρ, F2, G2, ou, ρ1, G1, h3, by rw [hl]; exact hb, h1, h4⟩
  | false =>
    rw [if_neg Bool.false_ne_true]
    exact ⟨b, μ, ρ, F2, G2, ou, ρ1, G1, h3, by rw [hl]; exact hb, h1, h4⟩
/-! ### a name is set -/
theorem ws_set0 {i : Nat} (hN : X.N.Nodup) (hi : X.N[i]? = some x) (hx : Loc X.env.scope x) (hf : X.fn x = true ∨ X.env.scope.names.lookup x = some .local) (he : Wx X e ma) (la : ∀ ρ, Lc (ma ρ)) (hs : swapsWith e (some (.Name x p)) pos.line X.env = pure false) :
    Ws X (.Assign [.Name x p] e pos) (fun b ρ G => lift (ma ρ) ρ G fun w G1 => some (.nx, store b i false w ρ G1)) := by
  refine ⟨fun pins s σ H D I h => ?_⟩
  obtain ⟨b, μ, ρ, F, G, ou, ρ1, G1, A, hb, hx', wt⟩ := h
  refine (ps_set hN hi hx (he.frz la) hs hf).run pins s σ H D I ?_
  have hx2 : lift (T.bind (ma ρ) fin) ρ G (fun w G1 => some (.nx, ρ.set i (some w), G1)) = some (ou, ρ1, G1) := by
    rcases lift_ok hx' with ⟨er, h1, rfl, rfl⟩ | ⟨w, G2, h1, h2⟩
    · unfold lift T.bind; rw [h1]
    · unfold lift T.bind; rw [h1]; exact h2
  refine tM_lift (m := fun ρ => T.bind (ma ρ) fin) A (.bind (la ρ) Lc.fin) hx2 wt fun w G2 F2 H2 h0 h1 h2 h3 hl h4 v i' => ?_
  cases h1
  exact h4 _ H2 μ F2 (Ex.refl _) (fun _ _ => rfl) ⟨h3.env.set _ (i'.s (fin_eq h0)), h3.rep⟩
theorem envOk_slot {μ' : Nat → Addr} {G' : Cs} {i l : Nat} {v : V} (h : EnvOk X μ F G ρ σ) (hl : G.length ≤ G'.length) (hl2 : l < G'.length) (hv : v = .ref (μ' l)) (hm : ∀ (j : Nat) k, j ≠ i → ρ[j]? = some (some (.r k)) → μ' k = μ k) : EnvOk X μ' F G' (ρ.set i (some (.r l))) (σ.set i (some v)) := by
  refine ⟨by rw [List.length_set, List.length_set]; exact h.len, fun j w e => ?_⟩
  by_cases hij : i = j
  · subst hij
    have hj : i < ρ.length := by
      have := (List.getElem?_eq_some_iff.mp e).1
      rwa [List.length_set] at this
    rw [List.getElem?_set_self hj] at e
    cases e
    exact ⟨v, List.getElem?_set_self (by rw [← h.len]; exact hj), hl2, hv⟩
  · rw [List.getElem?_set_ne hij] at e
    obtain ⟨v', h1, h2⟩ := h.at_ j w e
    refine ⟨v', by rw [List.getElem?_set_ne hij]; exact h1, ?_⟩
    cases w with
    | d u => exact h2
    | r k => exact ⟨Nat.lt_of_lt_of_le h2.1 hl, by rw [hm j k (Ne.symm hij) e]; exact h2.2⟩
    | n u => exact h2
    | ex er => exact h2
theorem used_go {l : Nat} : ∀ {ρ : Env} {j : Nat}, used.go l ρ = false → ρ[j]? ≠ some (some (.r l))
  | [], j, _ => by simp
  | w :: ρ, j, h => by
    unfold used.go at h
    rw [Bool.or_eq_false_iff] at h
    cases j with
    | zero =>
      intro e
      simp at e
      subst e
      have h1 := h.1
      dsimp only at h1
      exact absurd (of_decide_eq_false h1) (fun z => z rfl)
    | succ j =>
      intro e
      simp at e
      exact used_go h.2 e
theorem used_ok {l : Nat} : ∀ {i : Nat} {ρ : Env} {j : Nat}, used l i ρ = false → j ≠ i → ρ[j]? ≠ some (some (.r l))
  | _, [], _, _, _ => by simp
  | 0, w :: ρ, j, h, hj => by
    unfold used at h
    cases j with
    | zero => exact absurd rfl hj
    | succ j =>
      intro e
      simp at e
      exact used_go h e
  | i + 1, w :: ρ, j, h, hj => by
    unfold used at h
    rw [Bool.or_eq_false_iff] at h
    cases j with
    | zero =>
      intro e
      simp at e
      subst e
      have h1 := h.1
      dsimp only at h1
      exact absurd (of_decide_eq_false h1) (fun z => z rfl)
    | succ j =>
      intro e
      simp at e
      exact used_ok h.2 (fun z => hj (by rw [z])) e
/-- a new object in a cell that is no longer used -/
theorem Rep.reuse {K : PySem.W.Frag} {l : Nat} {a : Addr} {u : L4.D} (r : Rep K μ F G H) (hl : l < G.length) (h1 : F a = none) (h2 : ∀ k, k < G.length → μ k ≠ a) (ob : Ob K F H a u) : Rep K (mu1 μ l a) F (G.set l u) H := by
  refine ⟨r.sub, fun k d e => ?_, fun k k' k1 k2 e => ?_⟩
  · by_cases hk : l = k
    · subst hk
      rw [List.getElem?_set_self hl] at e
      cases e
      rw [mu1_at]
      exact ⟨h1, ob⟩
    · rw [List.getElem?_set_ne hk] at e
      have : mu1 μ l a k = μ k := by show (if k = l then a else μ k) = μ k; rw [if_neg (Ne.symm hk)]
      rw [this]
      exact r.at_ k d e
  · rw [List.length_set] at k1 k2
    by_cases hk : k = l
    · by_cases hk' : k' = l
      · rw [hk, hk']
      · have e2 : a = μ k' := by
          have : mu1 μ l a k = mu1 μ l a k' := e
          rw [hk, mu1_at] at this
          rw [this]
          show (if k' = l then a else μ k') = μ k'
          rw [if_neg hk']
        exact absurd e2.symm (h2 k' k2)
    · by_cases hk' : k' = l
      · have e2 : μ k = a := by
          have : mu1 μ l a k = mu1 μ l a k' := e
          rw [hk', mu1_at] at this
          rw [← this]
          show μ k = (if k = l then a else μ k)
          rw [if_neg hk]
        exact absurd e2 (h2 k k1)
      · refine r.inj k k' k1 k2 ?_
        have : mu1 μ l a k = mu1 μ l a k' := e
        have q1 : mu1 μ l a k = μ k := by show (if k = l then a else μ k) = μ k; rw [if_neg hk]
        have q2 : mu1 μ l a k' = μ k' := by show (if k' = l then a else μ k') = μ k'; rw [if_neg hk']
        rw [q1, q2] at this
        exact this
theorem store_at {w : Rv} {v : V} {i : Nat} (A : At X σ H μ ρ F G) (iw : IsW X μ F G H w v) (hb : b ≤ G.length) : ∃ μ', (∀ l, l < b → μ' l = μ l) ∧ At X (σ.set i (some v)) H μ' (store b i true w ρ G).1 F (store b i true w ρ G).2 := by
  cases w with
  | d u => exact ⟨μ, fun _ _ => rfl, A.env.set i (w := .d u) iw, A.rep⟩
  | r l => exact ⟨μ, fun _ _ => rfl, A.env.set i (w := .r l) iw, A.rep⟩
  | ex er => exact ⟨μ, fun _ _ => rfl, A.env.set i (w := .ex er) iw, A.rep⟩
  | n u =>
    obtain ⟨a, rfl, q1, q2, q3⟩ := (show ∃ a, v = .ref a ∧ F a = none ∧ (∀ l, l < G.length → μ l ≠ a) ∧ Ob X.K F H a u from iw)
    have push : ∃ μ', (∀ l, l < b → μ' l = μ l) ∧ At X (σ.set i (some (.ref a))) H μ' (ρ.set i (some (.r G.length))) F (G ++ [u]) := by
      refine ⟨mu1 μ G.length a, fun l hl => mu1_lt (Nat.lt_of_lt_of_le hl hb), ?_, A.rep.push q1 q2 q3⟩
      refine envOk_slot A.env (by rw [List.length_append]; exact Nat.le_add_right _ _) (by rw [List.length_append, List.length_singleton]; omega) (by rw [mu1_at]) fun j k hj e => ?_
      obtain ⟨v', _, h2⟩ := A.env.at_ j _ e
      exact mu1_lt h2.1
    unfold store
    dsimp only
    split
    · rename_i l hl
      split
      · rename_i hc
        obtain ⟨c1, c2, c3⟩ := hc
        refine ⟨mu1 μ l a, fun k hk => by show (if k = l then a else μ k) = μ k; rw [if_neg (by omega)], ?_, A.rep.reuse c2 q1 q2 q3⟩
        have := envOk_slot (μ' := mu1 μ l a) (G' := G.set l u) (i := i) (l := l) (v := .ref a) A.env (by rw [List.length_set]; exact Nat.le_refl _) (by rw [List.length_set]; exact c2) (by rw [mu1_at]) fun j k hj e => by
          show (if k = l then a else μ k) = μ k
          rw [if_neg fun z => used_ok c3 hj (by rw [← z]; exact e)]
        have e2 : ρ.set i (some (.r l)) = ρ := by
          apply List.ext_getElem?
          intro j
          by_cases hij : i = j
          · subst hij
            have hj := (List.getElem?_eq_some_iff.mp hl).1
            rw [List.getElem?_set_self hj, hl]
          · rw [List.getElem?_set_ne hij]
        rw [e2] at this
        exact this
      · exact push
    · exact push
theorem ws_set1 {i : Nat} (hN : X.N.Nodup) (hi : X.N[i]? = some x) (hx : Loc X.env.scope x) (hf : X.fn x = true ∨ X.env.scope.names.lookup x = some .local) (he : Wx X e ma) (la : ∀ ρ, Lc (ma ρ)) (hs : swapsWith e (some (.Name x p)) pos.line X.env = pure false) :
    Ws X (.Assign [.Name x p] e pos) (fun b ρ G => lift (ma ρ) ρ G fun w G1 => some (.nx, store b i true w ρ G1)) := by
  refine ⟨fun pins s σ H D I h => ?_⟩
  obtain ⟨b, μ, ρ, F, G, ou, ρ1, G1, A, hb, hx', wt⟩ := h
  refine (ps_set hN hi hx he hs hf).run pins s σ H D I (tM_lift A (la ρ) hx' wt fun w G2 F2 H2 h0 h1 h2 h3 hl h4 v i' => ?_)
  obtain ⟨μ', hμ, A'⟩ := store_at (i := i) h3 i' (by rw [hl]; exact hb)
  generalize store b i true w ρ G2 = st at h1 A'
  cases h1
  exact h4 _ H2 μ' F2 (Ex.refl _) hμ A'
end
end L4

set_option Elab.async false
set_option linter.all false
set_option maxRecDepth 100000
set_option maxHeartbeats 4000000
/-! Own errors: made, raised. -/
namespace L4
open PySem PySem.Spec PyProof.Rows L2
/-- what the written part says of an error class -/
structure ErrC (K : PySem.W.Frag) (C : Addr) : Prop where
  x : OexC K C
  init : ∃ fI, PySem.W.findIn K (.ref C) "__init__" = some (some (.ref fI)) ∧ PySem.W.typeIn K (.ref fI) = some (.type "function") ∧ fI = He.ma K C "__init__"
/-- the base class whose __init__ is the built-in one -/
structure BaseC (K : PySem.W.Frag) (C : Addr) : Prop where
  r : ClX.CRead K C (.type "type")
  i : PySem.W.findCls K (.ref C) (.type "type") "__init__" = some (.val (.builtin "ValueError.__init__"))
section
variable {X : Cx} {σ : L2.St} {F H F1 H1 : Hp} {R : V → Hp → Prop} {Z : XK} {D : Ends}
  {e a b : Expr} {pos p1 p2 : Pos} {rest : List Stmt} {W : WX} {pins : List (Addr × Obj)} {s : Shared}
/-- the form of a method's call -/
def MCall (x m : Str) (es : List Expr) (p1 p2 pos : Pos) : Prop := ∀ env : PySem.Env, ∃ pl : Sem Bool, eval (.Call (.Attribute (.Name x p1) m p2) es [] pos) env = (do
      let ov ← eval (.Name x p1) env
      standAt p2.atName
      let (f, first) ← holding [ov] (getMethod ov m pl)
      callWith pos f first (backTo pos (starEach es env)) (backToKw pos (keywordEach [] env)))
/-- Base.__init__(self, ..) -/
theorem pe_kinit {es : List Expr} {ta : TA} {Cb : Addr} {x : Str} (hg : Gl X x) (hm : X.mg x = some (.ref Cb)) (hb : BaseC X.K Cb) (ha : PA X (e :: es) ta)
    (hc : MCall x "__init__" (e :: es) p1 p2 pos)
    (hdb : (x == ("__debug__" : Str)) = false := by decide)
    (he : starEach (e :: es) X.env = (false, eval e X.env) :: starEach es X.env := by rfl) (hpl : (backTo pos (starEach es X.env)).any (·.1) = false := by rfl) :
    PE X (.Call (.Attribute (.Name x p1) "__init__" p2) (e :: es) [] pos) (tVeI X.K ta) := by
  refine ⟨fun pins s σ H Q I h => ?_⟩
  obtain ⟨pl, hc⟩ := hc X.env
  refine PySem.W.methodCall_KW (ld_glob I hg hm ?_ hdb) hc
  refine PySem.W.method_cls I.kIn hb.r.ga (PySem.W.cls_value I.kIn hb.r.rd hb.i rfl ?_)
  have I0 := I.tok (s.toks + 1)
  refine PyProof.Rows.callWith_method1 (thn (ha.run pos pins _ σ H _ I0 h) fun us s1 ⟨vs, H1, I1, r1, a, C, ws, ev, hl, T, ea, q⟩ => ?_) he hpl
  subst ev
  cases r1 with
  | @cons _ u0 _ ur ra rw' =>
    obtain rfl : u0 = Value.ref a := ra
    have hlen : ur.length ≤ sizeLine := by
      rw [← Paired.length rw', sizeLine_eq]
      omega
    exact oinit_ok T I1 ea hlen fun s' J => ⟨.non, H1, J, rfl, q⟩
/-! ### an __init__ of no, one, two attributes -/
def spE0 (K : PySem.W.Frag) : Sp := fun vs H R _ => ∃ a C, vs = [.ref a] ∧ OexC K C ∧ H a = some (exo a C none) ∧ R .non H
def spE1 (K : PySem.W.Frag) (f : Str) : Sp := fun vs H R _ => ∃ a C y, vs = [.ref a, y] ∧ OexC K C ∧ PySem.W.findIn K (.ref C) f = some none ∧ H a = some (exo a C none) ∧
  ∀ dx, H dx = none → dx ≠ a → R .non (upd (upd H dx (exd dx [(f, y)])) a (exo a C (some dx)))
def spE2 (K : PySem.W.Frag) (f g : Str) : Sp := fun vs H R _ => ∃ a C y z, vs = [.ref a, y, z] ∧ OexC K C ∧ PySem.W.findIn K (.ref C) f = some none ∧ PySem.W.findIn K (.ref C) g = some none ∧ H a = some (exo a C none) ∧
  ∀ dx, H dx = none → dx ≠ a → R .non (upd (upd (upd H dx (exd dx [(f, y)])) a (exo a C (some dx))) dx (exd dx [(g, z), (f, y)]))
end
section
variable {P : Program} {w : World} {K : PySem.W.Frag} {mg : Str → Option Value} {base : Heap} {qual bn : Str} {params : Arguments} {scope : Scope} {dvs : List V} {kws : List (Str × V)} {fA Cb : Addr} {fd : FuncData}
theorem ok_e0 {msg : Str} {j : Nat} {p1 p2 p3 p4 p5 p6 : Pos} (Fd : FunD K "__init__" qual params [.Expr (.Call (.Attribute (.Name bn p1) "__init__" p2) [.Name "self" p3, .Constant (.str msg) j p4] [] p5) p6] scope dvs kws fA fd)
    (S : FnScope ["self"] ["self"] scope) (hself : scope.names.lookup ("self" : Str) = some NameKind.local) (hgl : scope.names.lookup bn = some NameKind.globalImplicit) (hb : BaseC K Cb) (hm : mg bn = some (.ref Cb)) (hc : MCall bn "__init__" [.Name "self" p3, .Constant (.str msg) j p4] p1 p2 p5) (hdb : (bn == ("__debug__" : Str)) = false := by decide) : FnOk P w K mg base (L2.CX P w) 1 fA fd ["self"] (spE0 K) := by
  refine Fd.ok S (fun vs H Q E h => ?_) (fun cdv A outer s H vs Q E hr h => ?_)
  · obtain ⟨a, C, rfl, _⟩ := h
    rfl
  · obtain ⟨a, C, rfl, T, ha, k⟩ := h
    refine ⟨_, pss_one (ps_expr (pe_kinit (Cb := Cb) hgl hm hb (pa_cons (pe_var (i := 0) rfl (.inl hself)) (pa_cons pe_str pa_nil)) hc hdb)), ?_⟩
    exact ⟨_, rfl, a, C, _, rfl, by show 1 ≤ 1000; decide, T, ha, k⟩
theorem ok_e1 {msg f : Str} {j : Nat} {p1 p2 p3 p4 p5 p6 p7 p8 p9 p10 : Pos} (Fd : FunD K "__init__" qual params [.Expr (.Call (.Attribute (.Name bn p1) "__init__" p2) [.Name "self" p3, .Constant (.str msg) j p4] [] p5) p6, .Assign [.Attribute (.Name "self" p7) f p8] (.Name f p9) p10] scope dvs kws fA fd)
    (S : FnScope ["self", f] ["self", f] scope) (hself : scope.names.lookup ("self" : Str) = some NameKind.local) (hf : scope.names.lookup f = some NameKind.local) (hgl : scope.names.lookup bn = some NameKind.globalImplicit) (hb : BaseC K Cb) (hm : mg bn = some (.ref Cb)) (hc : MCall bn "__init__" [.Name "self" p3, .Constant (.str msg) j p4] p1 p2 p5)
    (hdb : (bn == ("__debug__" : Str)) = false := by decide) (hdf : (f == ("__debug__" : Str)) = false := by decide) (hcf : (f == ("__classdict__" : Str)) = false := by decide) : FnOk P w K mg base (L2.CX P w) 1 fA fd ["self", f] (spE1 K f) := by
  refine Fd.ok S (fun vs H Q E h => ?_) (fun cdv A outer s H vs Q E hr h => ?_)
  · obtain ⟨a, C, y, rfl, _⟩ := h
    rfl
  · obtain ⟨a, C, y, rfl, T, hno, ha, k⟩ := h
    refine ⟨_, pss_cons (ps_expr (pe_kinit (Cb := Cb) hgl hm hb (pa_cons (pe_var (i := 0) rfl (.inl hself)) (pa_cons pe_str pa_nil)) hc hdb)) (pss_one (ps_ost (pe_var (i := 0) rfl (.inl hself)) (pe_var (i := 1) rfl (.inl hf) hdf hcf))), ?_⟩
    exact ⟨_, rfl, a, C, _, rfl, by show 1 ≤ 1000; decide, T, ha, _, rfl, _, rfl, a, C, rfl, T, hno, .inl ⟨ha, k⟩⟩
theorem ok_e2 {msg f g : Str} {j : Nat} {p1 p2 p3 p4 p5 p6 p7 p8 p9 p10 q7 q8 q9 q10 : Pos} (Fd : FunD K "__init__" qual params [.Expr (.Call (.Attribute (.Name bn p1) "__init__" p2) [.Name "self" p3, .Constant (.str msg) j p4] [] p5) p6,
      .Assign [.Attribute (.Name "self" p7) f p8] (.Name f p9) p10, .Assign [.Attribute (.Name "self" q7) g q8] (.Name g q9) q10] scope dvs kws fA fd)
    (S : FnScope ["self", f, g] ["self", f, g] scope) (hself : scope.names.lookup ("self" : Str) = some NameKind.local) (hf : scope.names.lookup f = some NameKind.local) (hg : scope.names.lookup g = some NameKind.local) (hgl : scope.names.lookup bn = some NameKind.globalImplicit) (hb : BaseC K Cb) (hm : mg bn = some (.ref Cb)) (hc : MCall bn "__init__" [.Name "self" p3, .Constant (.str msg) j p4] p1 p2 p5)
    (hdb : (bn == ("__debug__" : Str)) = false := by decide) (hdf : (f == ("__debug__" : Str)) = false := by decide) (hcf : (f == ("__classdict__" : Str)) = false := by decide)
    (hdg : (g == ("__debug__" : Str)) = false := by decide) (hcg : (g == ("__classdict__" : Str)) = false := by decide) : FnOk P w K mg base (L2.CX P w) 1 fA fd ["self", f, g] (spE2 K f g) := by
  refine Fd.ok S (fun vs H Q E h => ?_) (fun cdv A outer s H vs Q E hr h => ?_)
  · obtain ⟨a, C, y, z, rfl, _⟩ := h
    rfl
  · obtain ⟨a, C, y, z, rfl, T, hno, hno2, ha, k⟩ := h
    refine ⟨_, pss_cons (ps_expr (pe_kinit (Cb := Cb) hgl hm hb (pa_cons (pe_var (i := 0) rfl (.inl hself)) (pa_cons pe_str pa_nil)) hc hdb)) (pss_cons (ps_ost (pe_var (i := 0) rfl (.inl hself)) (pe_var (i := 1) rfl (.inl hf) hdf hcf)) (pss_one (ps_ost (pe_var (i := 0) rfl (.inl hself)) (pe_var (i := 2) rfl (.inl hg) hdg hcg)))), ?_⟩
    refine ⟨_, rfl, a, C, _, rfl, by show 1 ≤ 1000; decide, T, ha, _, rfl, _, rfl, a, C, rfl, T, hno, .inl ⟨ha, fun dx n ne => ?_⟩⟩
    exact ⟨_, rfl, _, rfl, a, C, rfl, T, hno2, .inr ⟨dx, [(f, y)], upd_same, by rw [upd_ne ne, upd_same], by show 1 ≤ 900; decide, k dx n ne⟩⟩
end
/-! ### raised -/
section
variable {X : Cx} {σ : L2.St} {F H F1 H1 : Hp} {R : V → Hp → Prop} {Z : XK} {D : Ends}
  {e a b : Expr} {pos p pos2 : Pos} {rest : List Stmt} {W : WX} {pins : List (Addr × Obj)} {s : Shared} {x : Str} {C fI : Addr} {k : Nat} {fd : FuncData} {ps : List Str}
/-- the end of C(): an exception without a dict is let go -/
theorem mk_end00 {Qx : XK} {hp hp2 h2 : Heap} {g1 g2 : Array GenState} {d1 d2 : Drawn} {t1 t2 : Nat} {os1 os2 : OsState} {a C : Addr} (T : Raises X (.ref C)) (I1 : Inv X pins σ H1 ⟨hp, g1, d1, t1, os1⟩)
    (ha : hp.objs.size ≤ a) (k : ∀ b o, hp.get? b = some o → hp2.get? b = some o) (un : Un (frs X.stack) [] (upd H1 a (exo a C none)) (upd H1 a (exo a C none)) hp2 h2) (hok : HOk X.prog X.w (upd H1 a (exo a C none)) h2) (ho : os2 = os1) (hb : AllBare g2)
    (q : Qx (.ref C) none H1) : MkP X pins σ Qx (.ref a) ⟨h2, g2, d2, t2, os2⟩ := by
  obtain ⟨t0, hoe⟩ := exo_at hok (upd_same (H := H1) (a := a) (o := exo a C none))
  have hn : H1 a = none := I1.hok.fresh ha
  obtain ⟨G, g1', g2'⟩ := restrict h2 fun b => decide (b ≠ a)
  have gk : ∀ b, b ≠ a → G.get? b = h2.get? b := fun b hb => g1' b (decide_eq_true hb)
  have ge : G.get? a = none := g2' a (by simp)
  have nha : ∀ {b : Addr} {o : Obj}, hp.get? b = some o → b ≠ a := fun {b o} z => Nat.ne_of_lt (Nat.lt_of_lt_of_le (Heap.lt_size z) ha)
  have up : ∀ {b : Addr}, b ≠ a → H1 b = none → upd H1 a (exo a C none) b = none := fun {b} hb n => by rw [upd_ne hb]; exact n
  have U : Un (frs X.stack) [] H1 H1 hp G := {
    keep := fun b o z n hf hx => by
      rw [gk b (nha z)]
      exact un.keep b o (k b o z) (up (nha z) n) hf hx
    slot := fun b o z n hf hx => by
      rw [gk b (nha z)]
      exact un.slot b o (k b o z) (up (nha z) n) hf hx
    free := fun b o z n hx => n
    there := fun b o z hx => by
      rw [gk b (nha z)]
      exact un.there b o (k b o z) hx
    tups := fun b xs z => z
    frzs := fun b o v z => z
    tbls := fun b ps z => ⟨#[], by rw [z]; simp⟩ }
  have hok3 : HOk X.prog X.w H1 G := fun b o z => by
    have hba : b ≠ a := fun e => by rw [e, hn] at z; cases z
    have noa : ∀ {c : Addr}, upd H1 a (exo a C none) c = some (.own b) → c ≠ a := fun {c} hc => at_ne (upd_same (H := H1) (a := a) (o := exo a C none)) hc exo_own
    exact (hok b o (by rw [upd_ne hba]; exact z)).stay (fun c v hc y => by
        have hca : c ≠ a := by
          rcases hc with hc | hc
          · rw [hc]; exact hba
          · exact noa hc
        rw [gk c hca]
        exact y)
      (fun c hc => by rw [upd_ne (noa hc)] at hc; exact hc) (fun c xs hc => by
        have hca : c ≠ a := at_ne (upd_same (H := H1) (a := a) (o := exo a C none)) hc exo_tup
        rw [upd_ne hca] at hc
        exact hc)
  have J : Inv X pins σ H1 ⟨G, g2, d2, t2, os2⟩ := I1.call' (ch := []) ho U hok3 hb (fun b z => absurd z (by simp))
  refine ⟨a, _, _, ⟨G, g2, d2, t2, os2⟩, _, .ref C, none, rfl, J, fun b o z => ?_, ge, hoe, ⟨rfl, rfl⟩, rfl, rfl, hn, rfl, hb, T, q⟩
  by_cases hba : b = a
  · rw [hba, ge] at z; cases z
  · exact (gk b hba).symm.trans z
/-- the class called upon its arguments: its __init__ runs at the new exception -/
theorem run_oex {sp : Sp} {us : List Value} {vs : List V} {Qx : XK} (T : OexC X.K C) (iC : PySem.W.findIn X.K (.ref C) "__init__" = some (some (.ref fI))) (tI : PySem.W.typeIn X.K (.ref fI) = some (.type "function"))
    (F1 : FnOk X.prog X.w X.K X.mg X.base (L2.CX X.prog X.w) k fI fd ps sp) (hr : Room (k + 1) X.A) (hb : Binds X.K fd ps []) (I1 : Inv X pins σ H1 s) (r1 : Vals vs us) (hz : vs.length ≤ 1000)
    (q1 : ∀ a, H1 a = none → sp (.ref a :: vs) (upd H1 a (exo a C none)) (fun v H2 => v = .non ∧ ((H2 = upd H1 a (exo a C none) ∧ Qx (.ref C) none H1) ∨ ∃ (d : Addr) (fs : List (Str × V)), H2 a = some (exo a C (some d)) ∧ H2 d = some (exd d fs) ∧ H1 d = none ∧ Qx (.ref C) (some d) (upd (del H2 a) d (.xd fs)))) (fun _ _ _ => False)) :
    wpAny (model X.prog X.w) X.A (PySem.call (.ref C) us) (MkP X pins σ Qx) X.xe s := by
  obtain ⟨nm, q, N, bs, bm, sn, sub, ab, col, dd, k0, k1, k2, k3, k5, hC, hbm⟩ := T.cls
  obtain ⟨hp, g, dr, tk, os⟩ := s
  have hsz : hp.objs.size ≤ hp.objs.size + 1 := Nat.le_succ _
  have hn : H1 (hp.objs.size + 1) = none := I1.hok.fresh hsz
  have hq := q1 (hp.objs.size + 1) hn
  have kk : ∀ b o, hp.get? b = some o → ((hp.push (PySem.W.kdv_tup us)).push (PySem.HandSPX.excO C hp.objs.size)).get? b = some o := fun b o e => Heap.get?_push_of_some _ (Heap.get?_push_of_some _ e)
  have hget : ((hp.push (PySem.W.kdv_tup us)).push (PySem.HandSPX.excO C hp.objs.size)).get? (hp.objs.size + 1) = some (PySem.HandSPX.excO C hp.objs.size) := by heap_get
  have I2 : Inv X pins σ (upd H1 (hp.objs.size + 1) (exo (hp.objs.size + 1) C none)) ⟨(hp.push (PySem.W.kdv_tup us)).push (PySem.HandSPX.excO C hp.objs.size), g, dr, tk, os⟩ :=
    I1.laid (t' := tk) (a := hp.objs.size + 1) (o := exo (hp.objs.size + 1) C none) (h' := (hp.push (PySem.W.kdv_tup us)).push (PySem.HandSPX.excO C hp.objs.size)) kk hsz (exo_ok hget)
  have r2 : Vals (V.ref (hp.objs.size + 1) :: vs) (Value.ref (hp.objs.size + 1) :: us) := .cons rfl r1
  have hl : (Value.ref (hp.objs.size + 1) :: us ++ []).length = ps.length := by
    have e := r2.length
    rw [F1.len _ _ _ _ hq] at e
    rw [List.append_nil]
    exact e.symm
  have hus : us.length ≤ sizeLine := by
    rw [← Paired.length r1, sizeLine_eq]
    omega
  have bb := hb _ (Value.ref (hp.objs.size + 1) :: us) I2.kIn hl
  rw [List.append_nil] at bb
  refine wpAny_call (PySem.HandSPX.call_own F.excBase_ValueError (fun Y => PySem.HandSPX.refsVE_contains Y bm hbm) (I1.kIn _ _ hC) (PySem.W.looks_findIn I1.kIn iC) (fun self => PySem.W.bind_fn I1.kIn self tI) hus
    (codeAny_mono (F1.run _ X.stack _ _ ⟨Value.ref (hp.objs.size + 1) :: us, []⟩ (Value.ref (hp.objs.size + 1) :: us) _ _ (fun _ _ _ => False) (hr.make C us []) (I2.env0.make C us []) bb r2 hq) fun r s' hq' => ?_))
  cases r with
  | error er =>
    obtain ⟨_, _, _, _, _, _, _, _, _, _, _, _, z⟩ := hq'
    exact z.elim
  | ok fl =>
    cases fl with
    | ret u =>
      obtain ⟨v, H2, os2, bare2, un2, hok2, rv, ev, q2⟩ := hq'
      subst ev
      obtain ⟨h2, g2, d2, t2, os'⟩ := s'
      rcases q2 with ⟨e2, q2⟩ | ⟨d, fs, ea, ed, hd1, q2⟩
      · subst e2
        exact ⟨rv, mk_end00 (raises_own T.exC T.tyC) I1 hsz kk un2 hok2 os2 bare2 q2⟩
      · exact ⟨rv, mk_end (raises_own T.exC T.tyC) I1 hsz kk un2 hok2 os2 bare2 ea ed hd1 q2⟩
    | next => exact False.elim hq'
    | brk => exact False.elim hq'
    | cont => exact False.elim hq'
theorem pmk0 {sp : Sp} (T : OexC X.K C) (iC : PySem.W.findIn X.K (.ref C) "__init__" = some (some (.ref fI))) (tI : PySem.W.typeIn X.K (.ref fI) = some (.type "function"))
    (F1 : FnOk X.prog X.w X.K X.mg X.base (L2.CX X.prog X.w) k fI fd ps sp) (hr : Room (k + 1) X.A) (hb : Binds X.K fd ps []) (hg : Gl X x) (hm : X.mg x = some (.ref C)) (hdb : (x == ("__debug__" : Str)) = false := by decide) :
    PMk X (.Call (.Name x p) [] [] pos) (fun σ H Q => ∀ a, H a = none → sp [.ref a] (upd H a (exo a C none)) (fun v H2 => v = .non ∧ ((H2 = upd H a (exo a C none) ∧ Q (.ref C) none H) ∨ ∃ (d : Addr) (fs : List (Str × V)), H2 a = some (exo a C (some d)) ∧ H2 d = some (exd d fs) ∧ H d = none ∧ Q (.ref C) (some d) (upd (del H2 a) d (.xd fs)))) (fun _ _ _ => False)) := by
  intro pins s σ H Q I h
  refine wpAny_Call_Name_kw (ld_glob I hg hm ?_ hdb)
  exact PySem.W.callWith_K0 I.kIn T.kC (run_oex (us := []) (vs := []) T iC tI F1 hr hb I .nil (by simp) h)
theorem pmkN {sp : Sp} {es : List Expr} {ta : TA} (T : OexC X.K C) (iC : PySem.W.findIn X.K (.ref C) "__init__" = some (some (.ref fI))) (tI : PySem.W.typeIn X.K (.ref fI) = some (.type "function"))
    (F1 : FnOk X.prog X.w X.K X.mg X.base (L2.CX X.prog X.w) k fI fd ps sp) (hr : Room (k + 1) X.A) (hb : Binds X.K fd ps []) (hg : Gl X x) (hm : X.mg x = some (.ref C)) (ha : PA X (e :: es) ta)
    (hdb : (x == ("__debug__" : Str)) = false := by decide) (he : starEach (e :: es) X.env = (false, eval e X.env) :: starEach es X.env := by rfl) (hpl : (backTo pos (starEach es X.env)).any (·.1) = false := by rfl) :
    PMk X (.Call (.Name x p) (e :: es) [] pos) (fun σ H0 Q => ta σ H0 fun vs H => vs.length ≤ 1000 ∧ ∀ a, H a = none → sp (.ref a :: vs) (upd H a (exo a C none)) (fun v H2 => v = .non ∧ ((H2 = upd H a (exo a C none) ∧ Q (.ref C) none H) ∨ ∃ (d : Addr) (fs : List (Str × V)), H2 a = some (exo a C (some d)) ∧ H2 d = some (exd d fs) ∧ H d = none ∧ Q (.ref C) (some d) (upd (del H2 a) d (.xd fs)))) (fun _ _ _ => False)) := by
  intro pins s σ H Q I h
  refine wpAny_Call_Name_kw (ld_glob I hg hm ?_ hdb)
  exact PySem.W.callWith_K (h₀ := X.base) I.ok.mod.kin T.kC (thn (ha.run pos pins s σ H _ I h) fun us s1 ⟨vs, H1, I1, r1, hz, q1⟩ => ⟨I1.kIn, run_oex T iC tI F1 hr hb I1 r1 hz q1⟩) he hpl
/-- an error class by its name, with its __init__'s promise -/
structure ErrOk (X : Cx) (x : Str) (sp : Sp) : Prop where
  c : ErrC X.K (He.ga X.K x)
  g : X.mg x = some (.ref (He.ga X.K x))
  f : ∃ fd ps, FnOk X.prog X.w X.K X.mg X.base (L2.CX X.prog X.w) 1 (He.ma X.K (He.ga X.K x) "__init__") fd ps sp ∧ Binds X.K fd ps []
theorem del_upd {H : Hp} {a d : Addr} {o u v : HO} (n : H a = none) (hd : d ≠ a) : upd (del (upd (upd H d o) a u) a) d v = upd H d v := by
  funext b
  by_cases h1 : b = d
  · rw [h1, upd_same, upd_same]
  · rw [upd_ne h1, upd_ne h1]
    by_cases h2 : b = a
    · rw [h2, del_same, n]
    · rw [del_ne h2, upd_ne h2, upd_ne h1]
end
/-- what a raise of an error class asks: the names of its attributes in the order of the arguments -/
structure ErrR (P : Program) (w : World) (K : PySem.W.Frag) (mg : Str → Option Value) (base : Heap) (x : Str) (ns : List Str) : Prop where
  k : ErrK K x ns.reverse
  c : ErrC K (He.ga K x)
  g : mg x = some (.ref (He.ga K x))
  f : ∃ sp : Sp, (∃ fd ps, FnOk P w K mg base (L2.CX P w) 1 (He.ma K (He.ga K x) "__init__") fd ps sp ∧ Binds K fd ps []) ∧ ((ns = [] ∧ sp = spE0 K) ∨ (∃ f, ns = [f] ∧ sp = spE1 K f) ∨ ∃ f g, ns = [f, g] ∧ f ≠ g ∧ sp = spE2 K f g)
section
variable {X : Cx} {σ : L2.St} {H : Hp} {μ μ1 : Nat → Addr} {ρ ρ1 : Env} {F F1 : Hp} {G G1 G' : Cs} {e a c o : Expr} {es : List Expr} {pins : List (Addr × Obj)} {s : Shared} {pos p p2 : Pos} {x f : Str} {ns : List Str}
theorem ws_rai0 (hc : X.calm = true) (E : ErrR X.prog X.w X.K X.mg X.base x []) (hr : Room 2 X.A) (hg : Gl X x) (hdb : (x == ("__debug__" : Str)) = false) :
    Ws X (.Raise (some (.Call (.Name x p) [] [] pos)) none p2) (fun _ ρ G => some (.exc ⟨x, [], []⟩, ρ, G)) := by
  refine ⟨fun pins s σ H D I h => ?_⟩
  obtain ⟨b, μ, ρ, F, G, ou, ρ1, G1, A, hb, hx, wt⟩ := h
  obtain ⟨sp, ⟨fd, ps, Fn, hbd⟩, hsp⟩ := E.f
  obtain ⟨fI, i1, i2, i3⟩ := E.c.init
  subst i3
  cases hx
  obtain ⟨W, tk, hW⟩ := wt
  rcases hsp with ⟨_, rfl⟩ | ⟨f, z, _⟩ | ⟨f, g, z, _⟩
  · refine (ps_raise hc tk (pmk0 E.c.x i1 i2 Fn hr hbd hg E.g hdb)).run pins s σ H D I ?_
    intro a na
    refine ⟨a, He.ga X.K x, rfl, E.c.x, upd_same, rfl, .inl ⟨rfl, ?_⟩⟩
    exact hW σ H μ F _ _ (Ex.refl _) (fun _ _ => rfl) A ⟨rfl, E.k, .inl ⟨rfl, rfl, rfl⟩⟩
  · cases z
  · cases z
theorem updD_none {H : Hp} {a dx : Addr} {u w v o' : HO} (na : H a = none) (ne : dx ≠ a) : upd (del (upd (upd (upd H a u) dx w) a v) a) dx o' = upd H dx o' := by
  funext b
  by_cases h1 : b = dx
  · rw [h1, upd_same, upd_same]
  · rw [upd_ne h1, upd_ne h1]
    by_cases h2 : b = a
    · rw [h2, del_same, na]
    · rw [del_ne h2, upd_ne h2, upd_ne h1, upd_ne h2]
/-- raise C(e, ..) -/
theorem ws_raiN {md : Env → T (List L4.D)} (hc : X.calm = true) (E : ErrR X.prog X.w X.K X.mg X.base x ns) (hr : Room 2 X.A) (ha : WxD X (e :: es) md) (la : ∀ ρ, Lc (md ρ)) (hg : Gl X x) (hdb : (x == ("__debug__" : Str)) = false)
    (st1 : starEach (e :: es) X.env = (false, eval e X.env) :: starEach es X.env) (st2 : (backTo pos (starEach es X.env)).any (·.1) = false) :
    Ws X (.Raise (some (.Call (.Name x p) (e :: es) [] pos)) none p2) (fun _ ρ G => lift (md ρ) ρ G fun us G1 => cond (decide (us.length = ns.length)) (some (.exc ⟨x, ns.reverse, us.reverse⟩, ρ, G1)) none) := by
  refine ⟨fun pins s σ H D I h => ?_⟩
  obtain ⟨b, μ, ρ, F, G, ou, ρ1, G1, A, hb, hx, wt⟩ := h
  obtain ⟨sp, ⟨fd, ps, Fn, hbd⟩, hsp⟩ := E.f
  obtain ⟨fI, i1, i2, i3⟩ := E.c.init
  subst i3
  have hou : ∃ er, ou = .exc er := by
    rcases lift_ok hx with ⟨er, _, h, _⟩ | ⟨us, G2, _, h⟩
    · exact ⟨er, h⟩
    · cases hd : decide (us.length = ns.length) with
      | false => rw [hd] at h; cases h
      | true => rw [hd] at h; cases h; exact ⟨_, rfl⟩
  obtain ⟨er, rfl⟩ := hou
  obtain ⟨W, tk, hW⟩ := wt
  refine (ps_raise hc tk (pmkN E.c.x i1 i2 Fn hr hbd hg E.g ha hdb st1 st2)).run pins s σ H D I ?_
  refine tM_lift (D := D) (b := b) A (la ρ) hx ⟨W, tk, hW⟩ fun us G2 F2 H2 _ h1 h2 h3 hl wt2 vs i => ?_
  have hls : us.length = ns.length := by
    cases hd : decide (us.length = ns.length) with
    | false => rw [hd] at h1; cases h1
    | true => exact of_decide_eq_true hd
  rw [decide_eq_true hls] at h1
  cases h1
  obtain ⟨W2, tk2, hW2⟩ := wt2
  refine ⟨?_, fun a na => ?_⟩
  · rw [i.length, hls]
    rcases hsp with ⟨rfl, _⟩ | ⟨f, rfl, _⟩ | ⟨f, g, rfl, _⟩ <;> simp
  · have W3 : ∀ F' H' cls d, Ex F2 F' → Rep X.K μ F' G1 H' → IsE X.K F' ⟨x, ns.reverse, us.reverse⟩ cls d → W cls d σ H' := fun F' H' cls d e' rp ie => hW σ H' μ F' cls d (h2.trans e') (fun _ _ => rfl) (h3.on e' rp rfl) ie
    rcases hsp with ⟨rfl, rfl⟩ | ⟨f, rfl, rfl⟩ | ⟨f, g, rfl, hfg, rfl⟩
    · cases us with
      | nil =>
        rw [show vs = [] from i]
        refine ⟨a, He.ga X.K x, rfl, E.c.x, upd_same, rfl, .inl ⟨rfl, ?_⟩⟩
        exact W3 F2 H2 _ _ (Ex.refl _) h3.rep ⟨rfl, E.k, .inl ⟨rfl, rfl, rfl⟩⟩
      | cons u us => cases hls
    · obtain ⟨u, rfl⟩ : ∃ u, us = [u] := by
        cases us with
        | nil => cases hls
        | cons u us => cases us with
          | nil => exact ⟨u, rfl⟩
          | cons _ _ => simp at hls
      obtain ⟨v, r, rfl, iu, ir⟩ := i
      rw [show r = [] from ir]
      have hno : PySem.W.findIn X.K (.ref (He.ga X.K x)) f = some none := E.k.2 f (by simp)
      refine ⟨a, He.ga X.K x, v, rfl, E.c.x, hno, upd_same, fun dx nd ne => ⟨rfl, .inr ⟨dx, [(f, v)], upd_same, by rw [upd_ne ne, upd_same], by rw [upd_ne ne] at nd; exact nd, ?_⟩⟩⟩
      have nd' : H2 dx = none := by rw [upd_ne ne] at nd; exact nd
      rw [updD_none na ne]
      have nF := h3.rep.sub.none nd'
      exact W3 _ _ _ _ (Ex.new nF) (h3.rep.newF nd') ⟨rfl, E.k, .inr ⟨dx, [v], rfl, upd_same, rfl, v, [], rfl, iu.mono (Ex.new nF), rfl⟩⟩
    · obtain ⟨u, w, rfl⟩ : ∃ u w, us = [u, w] := by
        cases us with
        | nil => cases hls
        | cons u us => cases us with
          | nil => simp at hls
          | cons w us => cases us with
            | nil => exact ⟨u, w, rfl⟩
            | cons _ _ => simp at hls
      obtain ⟨v, r, rfl, iu, v2, r2, rfl, iw, ir⟩ := i
      rw [show r2 = [] from ir]
      have hno : PySem.W.findIn X.K (.ref (He.ga X.K x)) f = some none := E.k.2 f (by simp)
      have hno2 : PySem.W.findIn X.K (.ref (He.ga X.K x)) g = some none := E.k.2 g (by simp)
      refine ⟨a, He.ga X.K x, v, v2, rfl, E.c.x, hno, hno2, upd_same, fun dx nd ne => ⟨rfl, .inr ⟨dx, [(g, v2), (f, v)], ?_, upd_same, by rw [upd_ne ne] at nd; exact nd, ?_⟩⟩⟩
      · rw [upd_ne (Ne.symm ne), upd_same]
      have nd' : H2 dx = none := by rw [upd_ne ne] at nd; exact nd
      have nF := h3.rep.sub.none nd'
      have eqH : upd (del (upd (upd (upd (upd H2 a (exo a (He.ga X.K x) none)) dx (exd dx [(f, v)])) a (exo a (He.ga X.K x) (some dx))) dx (exd dx [(g, v2), (f, v)])) a) dx (.xd [(g, v2), (f, v)]) = upd H2 dx (.xd [(g, v2), (f, v)]) := by
        funext b
        by_cases h1 : b = dx
        · rw [h1, upd_same, upd_same]
        · rw [upd_ne h1, upd_ne h1]
          by_cases h2 : b = a
          · rw [h2, del_same, na]
          · rw [del_ne h2, upd_ne h1, upd_ne h2, upd_ne h1, upd_ne h2]
      rw [eqH]
      exact W3 _ _ _ _ (Ex.new nF) (h3.rep.newF nd') ⟨rfl, E.k, .inr ⟨dx, [v2, v], rfl, upd_same, rfl, v2, [v], rfl, iw.mono (Ex.new nF), v, [], rfl, iu.mono (Ex.new nF), rfl⟩⟩
end
end L4

set_option Elab.async false
set_option linter.all false
set_option maxRecDepth 100000
set_option maxHeartbeats 4000000
/-! Loops, stores. -/
namespace L4
open PySem PySem.Spec PyProof.Rows L2
section
variable {X : Cx} {σ : L2.St} {H : Hp} {μ μ1 : Nat → Addr} {ρ ρ1 : Env} {F F1 : Hp} {G G1 G' : Cs} {e a c o : Expr} {ma mb mc : Env → T Rv} {pins : List (Addr × Obj)} {s : Shared} {τ : Tb} {q : Bool} {n : Nat} {pos p p2 : Pos} {x f : Str} {b b' : Nat} {ou : Out} {st : Stmt} {sts : List Stmt} {m m1 m2 : Nat → Env → Cs → TS}
theorem ws_while {mt : Env → T Bool} (hp : PassesOwn (model X.prog X.w) X.A X.env X.xe) (hc : Wt X c mt (eval c X.env)) (lc : ∀ ρ, Lc (mt ρ)) (hb : Wss X sts m) (gw : ∀ b ρ G, Gw (m b ρ G) G.length) : Ws X (.While c sts [] pos) (fun b ρ G => wh mt (m b) ρ G) := by
  refine ⟨fun pins s σ H D I h => ?_⟩
  obtain ⟨b, μ, ρ, F, G, ou, ρ1, G1, A, hb0, hx, wt⟩ := h
  obtain ⟨n0, hn0⟩ := wh_some.mp hx
  refine (ps_while (tc := tT X mt) (tb := tS X m) hp ⟨hc.run⟩ hb).run pins s σ H D I ?_
  refine ⟨fun k σ2 H2 => ∃ μ2 ρ2 F2 G2, At X σ2 H2 μ2 ρ2 F2 G2 ∧ b ≤ G2.length ∧ Ex F F2 ∧ (∀ l, l < b → μ2 l = μ l) ∧ whN mt (m b) k ρ2 G2 = some (ou, ρ1, G1), ⟨n0, μ, ρ, F, G, A, hb0, Ex.refl _, fun _ _ => rfl, hn0⟩, ?_⟩
  rintro k σ2 H2 ⟨μ2, ρ2, F2, G2, A2, hb2, e2, hμ2, run⟩
  cases k with
  | zero => cases run
  | succ k =>
    unfold whN at run
    refine tM_lift (D := D) (b := b) A2 (lc ρ2) run (wt.mono e2 hμ2 (Nat.le_refl _)) fun t G3 F3 H3 _ h1 h2 h3 hl h4 => ?_
    cases t with
    | false =>
      rw [if_neg Bool.false_ne_true]
      cases h1
      exact h4 σ2 H3 μ2 F3 (Ex.refl _) (fun _ _ => rfl) h3
    | true =>
      rw [if_pos rfl]
      dsimp only [cond] at h1
      refine ⟨fun σ' H' => ∃ μ2 ρ2 F2 G2, At X σ' H' μ2 ρ2 F2 G2 ∧ b ≤ G2.length ∧ Ex F F2 ∧ (∀ l, l < b → μ2 l = μ l) ∧ whN mt (m b) k ρ2 G2 = some (ou, ρ1, G1), fun σ' H' z => ⟨k, Nat.lt_succ_self _, z⟩, ?_⟩
      cases hm : m b ρ2 G3 with
      | none => rw [hm] at h1; cases h1
      | some z =>
        obtain ⟨o3, ρ3, G4⟩ := z
        rw [hm] at h1
        have lg := gw b ρ2 G3 _ _ _ hm
        have hb3 : b ≤ G3.length := by rw [hl]; exact hb2
        refine ⟨b, μ2, ρ2, F3, G3, o3, ρ3, G4, h3, hb3, hm, ?_⟩
        cases o3 with
        | nx => exact fun σ' H' μ' F' e' hμ A' => ⟨μ', ρ3, F', G4, A', Nat.le_trans hb3 lg, e2.trans (h2.trans e'), fun l hl => (hμ l hl).trans (hμ2 l hl), h1⟩
        | cnt => exact fun σ' H' μ' F' e' hμ A' => ⟨μ', ρ3, F', G4, A', Nat.le_trans hb3 lg, e2.trans (h2.trans e'), fun l hl => (hμ l hl).trans (hμ2 l hl), h1⟩
        | brk => cases h1; exact fun σ' H' μ' F' e' hμ A' => h4 σ' H' μ' F' e' hμ A'
        | ret w => cases h1; exact h4
        | exc er => cases h1; exact h4
theorem lkb_le (b : Nat) : ∀ lk : Lk, b ≤ lkb b lk
  | [] => Nat.le_refl _
  | p :: r => Nat.le_trans (lkb_le b r) (Nat.le_max_right _ _)
theorem lkb_lt (b : Nat) : ∀ {lk : Lk} {c : Nat × L4.D}, c ∈ lk → c.1 < lkb b lk
  | p :: r, c, h => by
    rcases List.mem_cons.mp h with rfl | h
    · exact Nat.lt_of_lt_of_le (Nat.lt_succ_self _) (Nat.le_max_left _ _)
    · exact Nat.lt_of_lt_of_le (lkb_lt b h) (Nat.le_max_right _ _)
theorem lkb_bd (b : Nat) : ∀ {lk : Lk} {k : Nat}, b ≤ k → (∀ c ∈ lk, c.1 < k) → lkb b lk ≤ k
  | [], _, h, _ => h
  | p :: r, k, h, hc => Nat.max_le.mpr ⟨hc p List.mem_cons_self, lkb_bd b h fun c z => hc c (List.mem_cons_of_mem _ z)⟩
theorem ws_for {mi : Env → T (List L4.D × Lk)} {t : Tg} {tg iter : Expr} (hp : PassesOwn (model X.prog X.w) X.A X.env X.xe) (hc : X.calm = true) (hi : Wi X tg iter mi) (li : ∀ ρ, Lc (mi ρ)) (hg : PG X tg (gT X.K t)) (hb : Wss X sts m) (gw : ∀ b ρ G, Gw (m b ρ G) G.length)
    (hs : ∀ x, foldedSetIterable iter X.env x = pure x) : Ws X (.For tg iter sts [] pos) (fun b ρ G => lift (mi ρ) ρ G fun xs G1 => forL (fun ρ G => m (lkb b xs.2) ρ G) t xs.2 xs.1 ρ G1) := by
  refine ⟨fun pins s σ H D I h => ?_⟩
  obtain ⟨b, μ, ρ, F, G, ou, ρ1, G1, A, hb0, hx, wt⟩ := h
  refine (ps_for (tb := tS X m) hp hc hi hg hb hs).run pins s σ H D I ?_
  refine tM_lift (D := D) (b := b) A (li ρ) hx wt fun xl G2 F2 H2 _ h1 h2 h3 hl h4 J wk hlk => ?_
  obtain ⟨xs, lk⟩ := xl
  have hb2 : b ≤ G2.length := by rw [hl]; exact hb0
  have hbl : lkb b lk ≤ G2.length := lkb_bd b hb2 hlk
  have h1 : forL (fun ρ G => m (lkb b lk) ρ G) t lk xs ρ G2 = some (ou, ρ1, G1) := h1
  refine ⟨fun i k σ' H' => k = xs.length - i ∧ i ≤ xs.length ∧ ∃ μ' ρ' F' G', At X σ' H' μ' ρ' F' G' ∧ lkb b lk ≤ G'.length ∧ Ex F2 F' ∧ (∀ l, l < lkb b lk → μ' l = μ l) ∧ forL (fun ρ G => m (lkb b lk) ρ G) t lk (xs.drop i) ρ' G' = some (ou, ρ1, G1),
    ⟨_, rfl, Nat.zero_le _, μ, ρ, F2, G2, h3, hbl, Ex.refl _, fun _ _ => rfl, h1⟩, ?_⟩
  rintro i k σ' H' ⟨rfl, hi', μ', ρ', F', G', A', hb', e', hμ', run⟩
  have agree : ∀ c ∈ lk, μ' c.1 = μ c.1 := fun c hc => hμ' _ (lkb_lt b hc)
  by_cases hlt : i < xs.length
  · rw [drop_cons hlt] at run
    unfold forL at run
    cases hk : heldB lk G' with
    | false => rw [hk] at run; cases run
    | true =>
      rw [hk] at run
      dsimp only [cond] at run
      refine .inr ⟨wk.go i _ F' G' H' hlt agree e' A'.rep hk, fun σ' H' => ∃ μ' ρ' F' G', At X σ' H' μ' ρ' F' G' ∧ lkb b lk ≤ G'.length ∧ Ex F2 F' ∧ (∀ l, l < lkb b lk → μ' l = μ l) ∧ forL (fun ρ G => m (lkb b lk) ρ G) t lk (xs.drop (i + 1)) ρ' G' = some (ou, ρ1, G1),
        fun σ' H' z => ⟨xs.length - (i + 1), by omega, rfl, hlt, z⟩, fun v H3 y => ?_⟩
      obtain ⟨F3, e3, rp3, iv⟩ := wk.yld i _ _ F' G' H' v H3 (List.getElem?_eq_getElem hlt) agree e' A'.rep hk y
      cases hp2 : putT t xs[i] ρ' with
      | none => rw [hp2] at run; cases run
      | some ρ2 =>
        rw [hp2] at run
        try dsimp only at run
        refine putT_ok rp3.sub iv hp2 fun σ2 up => ?_
        have A3 : At X σ2 H3 μ' ρ2 F3 G' := ⟨(A'.env.mono e3 (Nat.le_refl _)).upd up, rp3⟩
        cases hm : m (lkb b lk) ρ2 G' with
        | none => rw [hm] at run; cases run
        | some z =>
          obtain ⟨o3, ρ3, G4⟩ := z
          rw [hm] at run
          try dsimp only at run
          have lg := gw _ ρ2 G' _ _ _ hm
          have h5 : Wants X D (lkb b lk) μ' F3 ou ρ1 G1 := (h4.mono (e'.trans e3) (fun l hl => hμ' l (Nat.lt_of_lt_of_le hl (lkb_le b lk))) (lkb_le b lk))
          refine ⟨lkb b lk, μ', ρ2, F3, G', o3, ρ3, G4, A3, hb', hm, ?_⟩
          cases o3 with
          | nx => exact fun σ' H' μ'' F'' e'' hμ A' => ⟨μ'', ρ3, F'', G4, A', Nat.le_trans hb' lg, e'.trans (e3.trans e''), fun l hl => (hμ l hl).trans (hμ' l hl), run⟩
          | cnt => exact fun σ' H' μ'' F'' e'' hμ A' => ⟨μ'', ρ3, F'', G4, A', Nat.le_trans hb' lg, e'.trans (e3.trans e''), fun l hl => (hμ l hl).trans (hμ' l hl), run⟩
          | brk => cases run; exact fun σ' H' μ'' F'' e'' hμ A' => h5 σ' H' μ'' F'' e'' hμ A'
          | ret w => cases run; exact h5
          | exc er => cases run; exact h5
  · have ei : i = xs.length := by omega
    subst ei
    rw [List.drop_length] at run
    unfold forL at run
    cases hk : heldB lk G' with
    | false => rw [hk] at run; cases run
    | true =>
      rw [hk] at run
      cases run
      exact .inl ⟨wk.stop _ _ F' G1 H' (Nat.le_refl _) agree e' A'.rep hk, h4 σ' H' μ' F' e' (fun l hl => hμ' l (Nat.lt_of_lt_of_le hl (lkb_le b lk))) A'⟩
end
end L4

set_option Elab.async false
set_option linter.all false
set_option maxRecDepth 100000
set_option maxHeartbeats 4000000
/-! Stores into things; comprehensions by names. -/
namespace L4
open PySem PySem.Spec PyProof.Rows L2
section
variable {X : Cx} {σ : L2.St} {H : Hp} {μ μ1 : Nat → Addr} {ρ ρ1 : Env} {F F1 : Hp} {G G1 G' : Cs} {e a c o : Expr} {ma mb mc : Env → T Rv} {pins : List (Addr × Obj)} {s : Shared} {τ : Tb} {q : Bool} {n : Nat} {pos p p2 : Pos} {x f : Str} {b b' : Nat} {ou : Out} {R : VK} {D : Ends}
theorem lift_bind {α β : Type} {m : T α} {k : α → T β} {ρ : Env} {G : Cs} {f : β → Cs → TS} : lift (T.bind m k) ρ G f = lift m ρ G fun x G1 => lift (k x) ρ G1 f := by
  unfold lift T.bind
  cases m G with
  | none => rfl
  | some p => obtain ⟨p1, p2⟩ := p; cases p1 <;> rfl
theorem lift_finD {w : Rv} {ρ : Env} {G G' : Cs} {f : L4.D → Cs → TS} (h : lift (finD w) ρ G f = some (ou, ρ1, G')) : ∃ d, w.frz = .d d ∧ f d G = some (ou, ρ1, G') := by
  rcases lift_ok h with ⟨er, h1, _⟩ | ⟨d, G2, h1, h2⟩
  · exact (finD_no h1).elim
  · obtain ⟨e, rfl⟩ := finD_ok h1
    exact ⟨d, e, h2⟩
theorem lift_fin {m : T Rv} {ρ : Env} {G : Cs} {f : L4.D → Cs → TS} : lift (T.bind m finD) ρ G f = lift (T.bind m fin) ρ G fun w G1 => lift (finD w) ρ G1 f := by
  rw [lift_bind, lift_bind]
  congr 1
  funext w G1
  cases w <;> rfl
/-- a datum first -/
theorem tE_liftD {k : L4.D → Cs → TS} (A : At X σ H μ ρ F G) (lm : ∀ ρ, Lc (ma ρ)) (hx : lift (T.bind (ma ρ) finD) ρ G k = some (ou, ρ1, G')) (wt : Wants X D b μ F ou ρ1 G')
    (next : ∀ d G1 F1 H1 v, k d G1 = some (ou, ρ1, G') → Ex F F1 → At X σ H1 μ ρ F1 G1 → G1.length = G.length → Wants X D b μ F1 ou ρ1 G' → Is X.K F1 d v → R v H1) : tE X (fun ρ => T.bind (ma ρ) fin) σ H R := by
  rw [lift_fin] at hx
  refine tM_lift (m := fun ρ => T.bind (ma ρ) fin) A (.bind (lm ρ) Lc.fin) hx wt fun w G1 F1 H1 h0 h1 h2 h3 hl h4 v i => ?_
  obtain ⟨d, e, h5⟩ := lift_finD h1
  cases w with
  | d u => cases e; exact next d G1 F1 H1 v h5 h2 h3 hl h4 i
  | n u => exact absurd rfl (fin_eq h0 u)
  | r l => cases e
  | ex er => cases e
theorem tE_liftF {k : Rv → Cs → TS} (A : At X σ H μ ρ F G) (lm : ∀ ρ, Lc (ma ρ)) (hx : lift (T.bind (ma ρ) fin) ρ G k = some (ou, ρ1, G')) (wt : Wants X D b μ F ou ρ1 G')
    (next : ∀ w G1 F1 H1 v, (∀ u, w ≠ .n u) → k w G1 = some (ou, ρ1, G') → Ex F F1 → At X σ H1 μ ρ F1 G1 → G1.length = G.length → Wants X D b μ F1 ou ρ1 G' → IsW X μ F1 G1 H1 w v → R v H1) : tE X (fun ρ => T.bind (ma ρ) fin) σ H R :=
  tM_lift (m := fun ρ => T.bind (ma ρ) fin) A (.bind (lm ρ) Lc.fin) hx wt fun w G1 F1 H1 h0 h1 h2 h3 hl h4 v i => next w G1 F1 H1 v (fin_eq h0) h1 h2 h3 hl h4 i
theorem PSet.or {t t' : TSet} (h : PSet X t) (h' : PSet X t') : PSet X (fun o i v H Q => t o i v H Q ∨ t' o i v H Q) := by
  intro pins s σ H o i v ov iv u Q I ro ri rv h0
  rcases h0 with h0 | h0
  · exact h pins s σ H o i v ov iv u Q I ro ri rv h0
  · exact h' pins s σ H o i v ov iv u Q I ro ri rv h0
theorem any_mem' {κ : Type} [DecidableEq κ] {k : κ} : ∀ {ks : List κ} {vs : List V}, ks.length = vs.length → ((ks.zip vs).any fun kv => decide (kv.1 = k)) = ks.any fun k' => decide (k' = k)
  | [], _, _ => by simp
  | k' :: ks, [], h => by cases h
  | k' :: ks, v :: vs, h => by
    rw [List.zip_cons_cons, List.any_cons, List.any_cons, any_mem' (by simpa using h)]
theorem put_rep' {K : PySem.W.Frag} {κ : Type} [DecidableEq κ] {k : κ} {d : L4.D} {v : V} {ks : List κ} {ds : List L4.D} {vs : List V} (hl : ks.length = vs.length) (hi : IsL K F ds vs) (i : Is K F d v) :
    ∃ us, putK (ks.zip vs) k v = (put_ k d ks ds).1.zip us ∧ (put_ k d ks ds).1.length = us.length ∧ IsL K F (put_ k d ks ds).2 us := by
  unfold putK put_
  rw [any_mem' hl]
  by_cases hk : (ks.any fun k' => decide (k' = k)) = true
  · rw [if_pos hk, if_pos hk]
    dsimp only
    have go : ∀ {ks : List κ} {ds : List L4.D} {vs : List V}, ks.length = vs.length → IsL K F ds vs → ∃ us, ((ks.zip vs).map fun kv => if kv.1 = k then (kv.1, v) else kv) = ks.zip us ∧ ks.length = us.length ∧ IsL K F ((ks.zip ds).map fun p => if p.1 = k then d else p.2) us := by
      intro ks
      induction ks with
      | nil => intro ds vs hl hi; exact ⟨[], rfl, rfl, IsL.nil⟩
      | cons k' ks ih =>
        intro ds vs hl hi
        cases vs with
        | nil => cases hl
        | cons v' vs =>
          cases ds with
          | nil => cases hi
          | cons d' ds =>
            obtain ⟨v2, r, e, i1, i2⟩ := hi
            cases e
            obtain ⟨us, e1, e2, e3⟩ := ih (by simpa using hl) i2
            refine ⟨(if k' = k then v else v') :: us, ?_, by rw [List.length_cons, List.length_cons, e2], ?_⟩
            · rw [List.zip_cons_cons, List.map_cons, List.zip_cons_cons, e1]
              congr 1
              dsimp only
              split <;> rfl
            · rw [List.zip_cons_cons, List.map_cons]
              refine .cons ?_ e3
              dsimp only
              split
              · exact i
              · exact i1
    exact go hl hi
  · rw [if_neg hk, if_neg hk]
    refine ⟨vs ++ [v], ?_, by rw [List.length_append, List.length_append, hl]; rfl, hi.append (.cons i .nil)⟩
    dsimp only
    rw [List.zip_append hl]
    rfl
/-- what is stored -/
theorem putD_ok {l : Nat} {u u' k d : L4.D} {v1 v2 : V} (rp : Rep X.K μ F G H) (hl : G[l]? = some u) (hp : putD u k d = some u') (ik : Is X.K F k v1) (iv : Is X.K F d v2) {Q : Hp → Prop} (hQ : ∀ H', Rep X.K μ F (G.set l u') H' → Q H') :
    rSetL (.ref (μ l)) v1 v2 H Q ∨ rSetD (.ref (μ l)) v1 v2 H Q := by
  obtain ⟨o1, ob⟩ := rp.at_ l u hl
  unfold putD at hp
  split at hp
  · rename_i xs i
    obtain ⟨j, h1, rfl⟩ := Option.map_eq_some_iff.mp hp
    obtain ⟨vs, h2, h3⟩ := ob
    have e1 : v1 = .int i := ik
    subst e1
    refine .inl ⟨_, vs, i, j, rfl, rfl, h2, by rw [h3.length]; exact h1, hQ _ (rp.setCell hl ⟨_, upd_same, h3.set iv j⟩)⟩
  · rename_i ks ds _
    split at hp
    · rename_i k hk
      obtain ⟨c, hp⟩ := askO_ok hp
      cases hp
      obtain ⟨vs, h2, h3, h4⟩ := ob
      obtain ⟨us, e1, e2, e3⟩ := put_rep' (k := k) h3 h4 iv
      refine .inr ⟨_, _, rfl, .inl ⟨_, k, h2, toKey_ok hk (Is.sees rp.sub ik), ?_, rfl⟩, hQ _ (rp.setCell hl ⟨us, by rw [upd_same, e1], e2, e3⟩)⟩
      have hz := of_decide_eq_true c
      have : line = 1000000 := rfl
      rw [sizeLine_eq, List.length_zip]
      omega
    · cases hp
  · rename_i ks ds _
    split at hp
    · rename_i k hk
      obtain ⟨c, hp⟩ := askO_ok hp
      cases hp
      obtain ⟨vs, h2, h3, h4⟩ := ob
      obtain ⟨us, e1, e2, e3⟩ := put_rep' (k := k) h3 h4 iv
      obtain ⟨bb, rfl, hb⟩ := toTKey_ok rp.sub hk (Is.sees rp.sub ik)
      refine .inr ⟨_, _, rfl, .inr ⟨_, k, bb, h2, rfl, hb, ?_, rfl⟩, hQ _ (rp.setCell hl ⟨us, by rw [upd_same, e1], e2, e3⟩)⟩
      have hz := of_decide_eq_true c
      have : line = 1000000 := rfl
      rw [sizeLine_eq, List.length_zip]
      omega
    · cases hp
  · cases hp
def subT (v : L4.D) (w : Rv) (k : L4.D) : T Unit := fun G => match w with
      | .r l => match (G[l]?).bind (fun u => putD u k v) with
        | some u => some (.ok (), G.set l u)
        | none => none
      | _ => none
theorem subT_ok {v k : L4.D} {w : Rv} {r : Except Err Unit} (h : subT v w k G = some (r, G')) : ∃ l u u', w = .r l ∧ G[l]? = some u ∧ putD u k v = some u' ∧ r = .ok () ∧ G' = G.set l u' := by
  cases w with
  | r l =>
    have h : (match (G[l]?).bind (fun u => putD u k v) with
        | some u => some (.ok (), G.set l u)
        | none => none) = some (r, G') := h
    cases hb : (G[l]?).bind (fun u => putD u k v) with
    | none => rw [hb] at h; cases h
    | some u' =>
      rw [hb] at h
      cases h
      obtain ⟨u, h1, h2⟩ := Option.bind_eq_some_iff.mp hb
      exact ⟨l, u, u', rfl, h1, h2, rfl, rfl⟩
  | d u => cases h
  | n u => cases h
  | ex er => cases h
/-- o[i] = e -/
theorem ws_sub {i : Expr} {mi : Env → T Rv} (hu : X.A.units + 1 < cLine) (he : Wx X e ma) (ho : Wx X o mb) (hi : Wx X i mi) (la : ∀ ρ, Lc (ma ρ)) (lb : ∀ ρ, Lc (mb ρ)) (li : ∀ ρ, Lc (mi ρ))
    (hs : swapsWithSole [.Subscript o i p] e pos.line X.env = pure false) (hw : swappedStores [.Subscript o i p] e X.env = pure none) (h1 : (assignEach [.Subscript o i p] X.env).map (·.2) = [assign (.Subscript o i p) X.env])
    (hasg : ∀ v, assign (.Subscript o i p) X.env v = (do
      let ov ← holding [v] (eval o X.env)
      let iv ← holding [v, ov] (eval i X.env)
      standAt p
      holding [v, ov, iv] (setItem ov iv v)
      release [v, ov, iv] [])) :
    Ws X (.Assign [.Subscript o i p] e pos) (fun _ ρ G => lift (T.bind (T.bind (ma ρ) finD) fun v => T.bind (T.bind (mb ρ) fin) fun w => T.bind (T.bind (mi ρ) finD) fun k => subT v w k) ρ G fun _ G1 => some (.nx, ρ, G1)) := by
  refine ⟨fun pins s σ H D I h => ?_⟩
  obtain ⟨b, μ, ρ, F, G, ou, ρ1, G1, A, hb, hx, wt⟩ := h
  dsimp only at hx
  rw [lift_bind] at hx
  refine (ps_asg (he.frz la) (pg_sub (ho.frz lb) (hi.frz li) (PSet.or set_list (set_dict hu)) hasg) hs hw h1).run pins s σ H D I (tE_liftD A la hx wt fun d G2 F2 H2 v h1 h2 h3 hl h4 iv => ?_)
  rw [lift_bind] at h1
  refine tE_liftF h3 lb h1 h4 fun w G3 F3 H3 v2 nn k1 k2 k3 kl k4 iw => ?_
  rw [lift_bind] at k1
  refine tE_liftD k3 li k1 k4 fun dk G4 F4 H4 v3 j1 j2 j3 jl j4 ik => ?_
  rcases lift_ok j1 with ⟨er, j5, _⟩ | ⟨_, G5, j5, j6⟩
  · obtain ⟨_, _, _, _, _, _, z, _⟩ := subT_ok j5
    cases z
  · obtain ⟨l, u, u', rfl, hu1, hu2, _, rfl⟩ := subT_ok j5
    cases j6
    obtain ⟨hl3, ev⟩ := (show l < G3.length ∧ v2 = .ref (μ l) from iw)
    subst ev
    refine putD_ok j3.rep hu1 hu2 ik (iv.mono (k2.trans j2)) fun H' rp' => ?_
    exact j4 σ H' μ F4 (Ex.refl _) (fun _ _ => rfl) ⟨j3.env.mono (Ex.refl _) (by rw [List.length_set]; exact Nat.le_refl _), rp'⟩
/-! ### attributes set -/
theorem putF_zip {f : Str} {d : L4.D} {v : V} {K : PySem.W.Frag} (i : Is K F d v) : ∀ {ns : List Str} {ds : List L4.D} {vs : List V}, ns.length = vs.length → IsL K F ds vs → ∃ us, L2.putF f v (ns.zip vs) = (putF f d ns ds).1.zip us ∧ (putF f d ns ds).1.length = us.length ∧ IsL K F (putF f d ns ds).2 us
  | [], ds, vs, hl, hi => by
    cases vs with
    | nil => exact ⟨[v], rfl, rfl, .cons i .nil⟩
    | cons _ _ => cases hl
  | k :: ns, ds, vs, hl, hi => by
    cases vs with
    | nil => cases hl
    | cons v' vs =>
      cases ds with
      | nil => cases hi
      | cons d' ds =>
        obtain ⟨v2, r, e, i1, i2⟩ := hi
        cases e
        rw [List.zip_cons_cons]
        unfold L2.putF L4.putF
        by_cases hk : k = f
        · rw [if_pos hk, if_pos hk]
          exact ⟨v :: vs, rfl, by simpa using hl, .cons i i2⟩
        · rw [if_neg hk, if_neg hk]
          obtain ⟨us, e1, e2, e3⟩ := putF_zip i (by simpa using hl) i2
          exact ⟨v' :: us, by rw [e1]; rfl, by simpa using e2, .cons i1 e3⟩
def attT (h : Hd) (f : Str) (v : L4.D) (w : Rv) : T Unit := fun G => match w with
      | .r l => match G[l]? with
        | some (.ins C ns vs) => askO (h.cls C && decide (ns.length < 900)) (some (.ok (), G.set l (.ins C (putF f v ns vs).1 (putF f v ns vs).2)))
        | _ => none
      | _ => none
theorem attT_ok {h : Hd} {v : L4.D} {w : Rv} {r : Except Err Unit} (hx : attT h f v w G = some (r, G')) : ∃ l C ns vs, w = .r l ∧ G[l]? = some (.ins C ns vs) ∧ h.cls C = true ∧ ns.length < 900 ∧ r = .ok () ∧ G' = G.set l (.ins C (putF f v ns vs).1 (putF f v ns vs).2) := by
  cases w with
  | r l =>
    have hx : (match G[l]? with
        | some (.ins C ns vs) => askO (h.cls C && decide (ns.length < 900)) (some (.ok (), G.set l (.ins C (putF f v ns vs).1 (putF f v ns vs).2)))
        | _ => none) = some (r, G') := hx
    cases hl : G[l]? with
    | none => rw [hl] at hx; cases hx
    | some u =>
      rw [hl] at hx
      cases u with
      | ins C ns vs =>
        obtain ⟨c, hx⟩ := askO_ok hx
        obtain ⟨c1, c2⟩ := Bool.and_eq_true_iff.mp c
        cases hx
        exact ⟨l, C, ns, vs, rfl, hl, c1, of_decide_eq_true c2, rfl, rfl⟩
      | _ => cases hx
  | d u => cases hx
  | n u => cases hx
  | ex er => cases hx
/-- o.f = e -/
theorem ws_att (gd : Good τ q n X) (hf : f ∈ τ.fd) (he : Wx X e ma) (ho : Wx X o mb) (la : ∀ ρ, Lc (ma ρ)) (lb : ∀ ρ, Lc (mb ρ)) (hs : swapsWith e (some (.Attribute o f p)) pos.line X.env = pure false) :
    Ws X (.Assign [.Attribute o f p] e pos) (fun _ ρ G => lift (T.bind (T.bind (ma ρ) finD) fun v => T.bind (T.bind (mb ρ) fin) fun w => attT (hd τ.pg q n) f v w) ρ G fun _ G1 => some (.nx, ρ, G1)) := by
  refine ⟨fun pins s σ H D I h => ?_⟩
  obtain ⟨b, μ, ρ, F, G, ou, ρ1, G1, A, hb, hx, wt⟩ := h
  dsimp only at hx
  rw [lift_bind] at hx
  refine (ps_fld (ho.frz lb) (he.frz la) hs).run pins s σ H D I (tE_liftD A la hx wt fun d G2 F2 H2 v h1 h2 h3 hl h4 iv => ?_)
  rw [lift_bind] at h1
  refine tE_liftF h3 lb h1 h4 fun w G3 F3 H3 v2 nn k1 k2 k3 kl k4 iw => ?_
  rcases lift_ok k1 with ⟨er, j5, _⟩ | ⟨_, G5, j5, j6⟩
  · obtain ⟨_, _, _, _, _, _, _, _, z, _⟩ := attT_ok j5
    cases z
  · obtain ⟨l, C, ns, vs, rfl, hu1, hc, hz, _, rfl⟩ := attT_ok j5
    cases j6
    obtain ⟨hl3, ev⟩ := (show l < G3.length ∧ v2 = .ref (μ l) from iw)
    subst ev
    have hc : τ.pg.cls C = true := hc
    obtain ⟨o1, dx, us, h5, h6, h7⟩ := k3.rep.at_ l _ hu1
    obtain ⟨us', e1, e2, e3⟩ := putF_zip (f := f) (iv.mono k2) h6 h7
    refine ⟨μ l, He.ga X.K C, dx, _, rfl, h5, (gd.kn.cls C hc).cl, gd.kn.fd C hc f hf, by rw [List.length_zip]; omega, ?_⟩
    refine k4 σ _ μ F3 (Ex.refl _) (fun _ _ => rfl) ⟨k3.env.mono (Ex.refl _) (by rw [List.length_set]; exact Nat.le_refl _), k3.rep.setCell hu1 ⟨dx, us', ?_, e2, e3⟩⟩
    rw [upd_same, e1]
/-! ### several names from a tuple -/
theorem walkD_ok {g : L4.D → Option (List L4.D)} {w : Rv} {r : Except Err (List L4.D)} (h : walkD g w G = some (r, G')) : G' = G ∧ ∃ u xs, see G w = some u ∧ g u = some xs ∧ r = .ok xs := by
  unfold walkD at h
  cases hb : (see G w).bind g with
  | none => rw [hb] at h; cases h
  | some xs =>
    rw [hb] at h
    cases h
    obtain ⟨u, h1, h2⟩ := Option.bind_eq_some_iff.mp hb
    exact ⟨rfl, u, xs, h1, h2, rfl⟩
theorem ws_tups {is : List Nat} {tg : Expr} (hg : PG X tg (gT X.K (.tup is))) (he : Wx X e ma) (la : ∀ ρ, Lc (ma ρ)) (hs : swapsWithSole [tg] e pos.line X.env = pure false) (hw : swappedStores [tg] e X.env = pure none) (h1 : (assignEach [tg] X.env).map (·.2) = [assign tg X.env]) :
    Ws X (.Assign [tg] e pos) (fun _ ρ G => lift (T.bind (T.bind (ma ρ) fin) (walkD tupD)) ρ G fun xs G1 => match putAll is xs ρ with
    | some ρ1 => some (.nx, ρ1, G1)
    | none => none) := by
  refine ⟨fun pins s σ H D I h => ?_⟩
  obtain ⟨b, μ, ρ, F, G, ou, ρ1, G1, A, hb, hx, wt⟩ := h
  dsimp only at hx
  rw [lift_bind] at hx
  refine (ps_asg (he.frz la) hg hs hw h1).run pins s σ H D I (tE_liftF A la hx wt fun w G3 F3 H3 v nn k1 k2 k3 kl k4 iw => ?_)
  rcases lift_ok k1 with ⟨er, j5, _⟩ | ⟨xs, G5, j5, j6⟩
  · obtain ⟨_, _, _, _, _, z⟩ := walkD_ok j5
    cases z
  · obtain ⟨rfl, u, xs', hu1, hu2, z⟩ := walkD_ok j5
    cases z
    cases hp : putAll is xs ρ with
    | none => rw [hp] at j6; cases j6
    | some ρ2 =>
      rw [hp] at j6
      cases j6
      cases u with
      | tup xs0 =>
        cases hu2
        have su := iw.sees k3.rep hu1
        refine putT_ok (t := .tup is) (d := .tup xs) k3.rep.sub (show Is X.K F3 (.tup xs) v from su) (show putAll is xs ρ = some _ from hp) fun σ1 up => ?_
        exact k4 σ1 H3 μ F3 (Ex.refl _) (fun _ _ => rfl) ⟨k3.env.upd up, k3.rep⟩
      | _ => cases hu2
end
end L4

set_option Elab.async false
set_option linter.all false
set_option maxRecDepth 100000
set_option maxHeartbeats 4000000
/-! Comprehensions as expressions, by names. -/
namespace L4
open PySem PySem.Spec PyProof.Rows L2
section
variable {X : Cx} {σ : L2.St} {H : Hp} {μ μ1 : Nat → Addr} {ρ ρ1 : Env} {F F1 : Hp} {G G1 G' : Cs} {e a c o : Expr} {ma mb mc : Env → T Rv} {pins : List (Addr × Obj)} {s : Shared} {τ : Tb} {q : Bool} {n : Nat} {pos p p2 : Pos} {x f : Str} {b b' : Nat} {ou : Out} {st : Stmt}
/-- a name set to what was just made -/
theorem ws_asgN {te : TE} {i : Nat} {keep : Bool} (hPS : PS X st (tAsg te (gName i))) (hte : ∀ σ H R, tE X ma σ H R → te σ H R) (la : ∀ ρ, Lc (ma ρ)) : Ws X st (fun b ρ G => lift (ma ρ) ρ G fun w G1 => some (.nx, store b i keep w ρ G1)) := by
  refine ⟨fun pins s σ H D I h => ?_⟩
  obtain ⟨b, μ, ρ, F, G, ou, ρ1, G1, A, hb, hx, wt⟩ := h
  refine thn (hPS.run pins s σ H { D with nx := fun σ' H' => ∃ w G2 F2 v, σ' = σ.set i (some v) ∧ some (Out.nx, store b i keep w ρ G2) = some (ou, ρ1, G1) ∧ Ex F F2 ∧ At X σ H' μ ρ F2 G2 ∧ G2.length = G.length ∧ Wants X D b μ F2 ou ρ1 G1 ∧ IsW X μ F2 G2 H' w v } I
    (hte _ _ _ (tM_lift (D := D) A (la ρ) hx wt fun w G2 F2 H2 h0 h1 h2 h3 hl h4 v iw => ⟨w, G2, F2, v, rfl, h1, h2, h3, hl, h4, iw⟩))) fun fl s' q => ?_
  cases fl with
  | next =>
    obtain ⟨σ', H', I', w, G2, F2, v, rfl, h1, h2, h3, hl, h4, iw⟩ := q
    cases keep with
    | true =>
      obtain ⟨μ', hμ, A'⟩ := store_at (i := i) h3 iw (by rw [hl]; exact hb)
      generalize store b i true w ρ G2 = st at h1 A'
      cases h1
      exact ⟨_, H', I', h4 _ H' μ' F2 (Ex.refl _) hμ A'⟩
    | false =>
      obtain ⟨F3, H3, I3, e3, rp3, i3⟩ := frz_w I' h3.rep iw
      have h1 : some (Out.nx, ρ.set i (some w.frz), G2) = some (ou, ρ1, G1) := h1
      cases h1
      exact ⟨_, H3, I3, h4 _ H3 μ F3 e3 (fun _ _ => rfl) ⟨(h3.env.mono e3 (Nat.le_refl _)).set _ (i3.s (frz_ne w)), rp3⟩⟩
  | brk => exact q
  | cont => exact q
  | ret v => exact q
/-- name = {..}, a dict comprehension -/
theorem ps_setDc {i : Nat} {y : Str} {py : Pos} {kx vx tg iter : Expr} {ifs : List Expr} {scope : Scope} {own : List (Str × Nat)} {pos spos : Pos} {wi : TI} {g : TG} {tt : TT} {tk tv : TE} (hc : X.calm = true) (hN : X.N.Nodup) (hy : X.N[i]? = some y) (hyl : X.env.scope.names.lookup y = some .local)
    (hsw : swapsWith (.DictComp kx vx [⟨tg, iter, ifs, 0⟩] scope pos) (some (.Name y py)) spos.line X.env = pure true) (hi : PI X tg iter wi) (ok : BlkOk X.N X.env.scope scope own)
    (hg : ∀ (s : Shared) (H : Hp) (C : Addr) (cl : List (Str × Addr)) (fp : List Addr), PG (X.blk s H scope (compEnvC scope cl C X.env) fp) tg g) (ht : ∀ (s : Shared) (H : Hp) (C : Addr) (cl : List (Str × Addr)) (fp : List Addr), PTs (X.blk s H scope (compEnvC scope cl C X.env) fp) ifs tt)
    (hk : ∀ (s : Shared) (H : Hp) (C : Addr) (cl : List (Str × Addr)) (fp : List Addr), PE (X.blk s H scope (compEnvC scope cl C X.env) fp) kx tk)
    (he : ∀ (s : Shared) (H : Hp) (C : Addr) (cl : List (Str × Addr)) (fp : List Addr), PE (X.blk s H scope (compEnvC scope cl C X.env) fp) vx tv) (hs : ∀ x, foldedSetIterable iter X.env x = pure x) :
    PS X (.Assign [.Name y py] (.DictComp kx vx [⟨tg, iter, ifs, 0⟩] scope pos) spos) (tAsg (tDc wi g tt tk tv (own.map (·.2))) (gName i)) := by
  refine ⟨fun pins s σ H D I h => ?_⟩
  rw [exec_Assign_Name_used _ _ _ _ hsw]
  refine wpAny_bind (wpAny_standAt (wpAny_bind ?_))
  show wpAny _ X.A (do let _ ← comprehension (.DictComp kx vx [⟨tg, iter, ifs, 0⟩] scope pos) scope X.env (firstIterPos [⟨tg, iter, ifs, 0⟩] pos) newDict false (eval iter X.env) (some (assign (.Name y py) X.env))) _ _ s
  have h : tDc wi g tt tk tv (own.map (·.2)) σ H (fun x H1 => gName i x σ H1 D.nx) := h
  refine wpAny_bind (thn (dc_core (Qf := fun _ s' => SP X pins D .next s') hc hN I hi ok hg ht hk he hs h fun L C s' m H' I' q hn f => ?_) fun _ s' hq => wpAny_pure (wpAny_pure hq))
  show wpAny _ _ (assign (.Name y py) X.env (.ref L)) _ _ _
  refine wpAny_assign_Name (store_ok2 (v := V.ref L) I' hN hy (.inl hyl) rfl (fun s2 I2 ⟨a, sb, ha⟩ => ?_) (.inr hyl))
  obtain ⟨f0, f1, f2, f3, f4, f5⟩ := f
  have haC : C ≠ a := by
    rcases ha with z | z
    · rw [z]; exact f1
    · exact fun e => f4 y a z e.symm
  refine ⟨m, hn.sameBut sb haC, fun h3 sb3 => ?_⟩
  exact ⟨_, H', I2.turned (t' := s2.toks) (fun b o hb e => (sb3.2 b hb).trans e) f0 f1 f3 f4 f5, q⟩
variable {elt kx vx tg iter tg1 iter1 : Expr} {ifs ifs1 : List Expr} {scope : Scope} {own : List (Str × Nat)} {vs1 : List Nat} {mi mi1 : Env → T (List D × Lk)} {mt mt1 : Env → T Bool} {me mk : Env → T Rv} {t t1 : Tg}
/-- in every block of the comprehension -/
abbrev InBlk (X : Cx) (scope : Scope) (P : Cx → Prop) : Prop := ∀ (s : Shared) (H : Hp) (C : Addr) (cl : List (Str × Addr)) (fp : List Addr), P (X.blk s H scope (compEnvC scope cl C X.env) fp)
/-- what one clause does -/
def clOne (vs : List Nat) (t : Tg) (u0 : D) (mi : Env → T (List D × Lk)) (mt : Env → T Bool) (k : Nat → Env → T Unit) (ρ : Env) : T Rv :=
  T.bind (mi ρ) fun xs => making u0 fun l => T.each xs.2 (turn1 vs t mt (k l) ρ) xs.1
def clTwo (vs : List Nat) (t : Tg) (vs1 : List Nat) (t1 : Tg) (u0 : D) (mi : Env → T (List D × Lk)) (mt : Env → T Bool) (mi1 : Env → T (List D × Lk)) (mt1 : Env → T Bool) (k : Nat → Env → T Unit) (ρ : Env) : T Rv :=
  T.bind (mi ρ) fun xs => making u0 fun l => T.each xs.2 (fun x => T.bind (liftO (putT t x (blkE vs ρ))) fun ρ1 => T.bind (mt ρ1) fun b =>
      cond b (T.bind (mi1 ρ1) fun ys => T.each ys.2 (fun y => T.bind (liftO (putT t1 y (wipe ρ1 vs1))) fun ρ2 => T.bind (mt1 ρ2) fun b1 => cond b1 (k l ρ2) (T.pure ())) ys.1) (T.pure ())) xs.1
def kL (me : Env → T Rv) (l : Nat) (ρ : Env) : T Unit := T.bind (T.bind (me ρ) finD) fun u => addL l u
def kD (mk me : Env → T Rv) (l : Nat) (ρ : Env) : T Unit := T.bind (T.bind (mk ρ) finD) fun y => T.bind (T.bind (me ρ) finD) fun u => addD l y u
theorem wx_lc (hc : X.calm = true) (hN : X.N.Nodup) (hi : Wi X tg iter mi) (li : ∀ ρ, Lc (mi ρ)) (ok : BlkOk X.N X.env.scope scope own) (hv : ∀ i ∈ t.ix, i ∈ own.map (·.2)) (hg : InBlk X scope fun Y => PG Y tg (gT Y.K t)) (ht : InBlk X scope fun Y => Wc Y ifs mt) (lt : ∀ ρ, Lc (mt ρ))
    (he : InBlk X scope fun Y => Wx Y elt me) (le : ∀ ρ, Lc (me ρ)) (hs : ∀ x, foldedSetIterable iter X.env x = pure x) : Wx X (.ListComp elt [⟨tg, iter, ifs, 0⟩] scope pos) (clOne (own.map (·.2)) t (.lst []) mi mt (kL me)) :=
  ⟨fun pins s σ H R I h => (pe_lc hc hN hi ok hg ht (fun s H C cl fp => pe_of0 (he s H C cl fp) le rfl) hs).run pins s σ H R I (tlc_of (md := fun ρ => T.bind (me ρ) finD) li lt (fun ρ => .bind (le ρ) Lc.finD) hv h)⟩
theorem ws_setLc {i : Nat} {y : Str} {py spos : Pos} {keep : Bool} (hc : X.calm = true) (hN : X.N.Nodup) (hy : X.N[i]? = some y) (hyl : X.env.scope.names.lookup y = some .local) (hsw : swapsWith (.ListComp elt [⟨tg, iter, ifs, 0⟩] scope pos) (some (.Name y py)) spos.line X.env = pure true)
    (hi : Wi X tg iter mi) (li : ∀ ρ, Lc (mi ρ)) (ok : BlkOk X.N X.env.scope scope own) (hv : ∀ i ∈ t.ix, i ∈ own.map (·.2)) (hg : InBlk X scope fun Y => PG Y tg (gT Y.K t)) (ht : InBlk X scope fun Y => Wc Y ifs mt) (lt : ∀ ρ, Lc (mt ρ))
    (he : InBlk X scope fun Y => Wx Y elt me) (le : ∀ ρ, Lc (me ρ)) (hs : ∀ x, foldedSetIterable iter X.env x = pure x) (lc : ∀ ρ, Lc (clOne (own.map (·.2)) t (.lst []) mi mt (kL me) ρ)) :
    Ws X (.Assign [.Name y py] (.ListComp elt [⟨tg, iter, ifs, 0⟩] scope pos) spos) (fun b ρ G => lift (clOne (own.map (·.2)) t (.lst []) mi mt (kL me) ρ) ρ G fun w G1 => some (.nx, store b i keep w ρ G1)) :=
  ws_asgN (ps_setLc hc hN hy hyl hsw hi ok hg ht (fun s H C cl fp => pe_of0 (he s H C cl fp) le rfl) hs) (fun σ H R h => tlc_of (md := fun ρ => T.bind (me ρ) finD) li lt (fun ρ => .bind (le ρ) Lc.finD) hv h) lc
theorem wx_lc2 (hc : X.calm = true) (hN : X.N.Nodup) (hi : Wi X tg iter mi) (li : ∀ ρ, Lc (mi ρ)) (ok : BlkOk X.N X.env.scope scope own) (hv : ∀ i ∈ t.ix, i ∈ own.map (·.2)) (hg : InBlk X scope fun Y => PG Y tg (gT Y.K t)) (ht : InBlk X scope fun Y => Wc Y ifs mt) (lt : ∀ ρ, Lc (mt ρ))
    (hi1 : InBlk X scope fun Y => Wi Y tg1 iter1 mi1) (li1 : ∀ ρ, Lc (mi1 ρ)) (hv1 : ∀ i ∈ t1.ix, i ∈ vs1) (hvv : ∀ i ∈ vs1, i ∈ own.map (·.2)) (hg1 : InBlk X scope fun Y => PG Y tg1 (gT Y.K t1)) (ht1 : InBlk X scope fun Y => Wc Y ifs1 mt1) (lt1 : ∀ ρ, Lc (mt1 ρ))
    (he : InBlk X scope fun Y => Wx Y elt me) (le : ∀ ρ, Lc (me ρ)) (hs : ∀ x, foldedSetIterable iter X.env x = pure x) (hs1 : ∀ env x, foldedSetIterable iter1 env x = pure x) :
    Wx X (.ListComp elt [⟨tg, iter, ifs, 0⟩, ⟨tg1, iter1, ifs1, 0⟩] scope pos) (clTwo (own.map (·.2)) t vs1 t1 (.lst []) mi mt mi1 mt1 (kL me)) :=
  ⟨fun pins s σ H R I h => (pe_lc2 hc hN hi ok hvv hg ht (fun s H C cl fp => pi_of0 (hi1 s H C cl fp) rfl) hg1 ht1 (fun s H C cl fp => pe_of0 (he s H C cl fp) le rfl) hs hs1).run pins s σ H R I (tlc2_of (md := fun ρ => T.bind (me ρ) finD) li lt li1 lt1 (fun ρ => .bind (le ρ) Lc.finD) hv hv1 h)⟩
theorem ws_setLc2 {i : Nat} {y : Str} {py spos : Pos} {keep : Bool} (hc : X.calm = true) (hN : X.N.Nodup) (hy : X.N[i]? = some y) (hyl : X.env.scope.names.lookup y = some .local) (hsw : swapsWith (.ListComp elt [⟨tg, iter, ifs, 0⟩, ⟨tg1, iter1, ifs1, 0⟩] scope pos) (some (.Name y py)) spos.line X.env = pure true)
    (hi : Wi X tg iter mi) (li : ∀ ρ, Lc (mi ρ)) (ok : BlkOk X.N X.env.scope scope own) (hv : ∀ i ∈ t.ix, i ∈ own.map (·.2)) (hg : InBlk X scope fun Y => PG Y tg (gT Y.K t)) (ht : InBlk X scope fun Y => Wc Y ifs mt) (lt : ∀ ρ, Lc (mt ρ))
    (hi1 : InBlk X scope fun Y => Wi Y tg1 iter1 mi1) (li1 : ∀ ρ, Lc (mi1 ρ)) (hv1 : ∀ i ∈ t1.ix, i ∈ vs1) (hvv : ∀ i ∈ vs1, i ∈ own.map (·.2)) (hg1 : InBlk X scope fun Y => PG Y tg1 (gT Y.K t1)) (ht1 : InBlk X scope fun Y => Wc Y ifs1 mt1) (lt1 : ∀ ρ, Lc (mt1 ρ))
    (he : InBlk X scope fun Y => Wx Y elt me) (le : ∀ ρ, Lc (me ρ)) (hs : ∀ x, foldedSetIterable iter X.env x = pure x) (hs1 : ∀ env x, foldedSetIterable iter1 env x = pure x) (lc : ∀ ρ, Lc (clTwo (own.map (·.2)) t vs1 t1 (.lst []) mi mt mi1 mt1 (kL me) ρ)) :
    Ws X (.Assign [.Name y py] (.ListComp elt [⟨tg, iter, ifs, 0⟩, ⟨tg1, iter1, ifs1, 0⟩] scope pos) spos) (fun b ρ G => lift (clTwo (own.map (·.2)) t vs1 t1 (.lst []) mi mt mi1 mt1 (kL me) ρ) ρ G fun w G1 => some (.nx, store b i keep w ρ G1)) :=
  ws_asgN (ps_setLc2 hc hN hy hyl hsw hi ok hvv hg ht (fun s H C cl fp => pi_of0 (hi1 s H C cl fp) rfl) hg1 ht1 (fun s H C cl fp => pe_of0 (he s H C cl fp) le rfl) hs hs1) (fun σ H R h => tlc2_of (md := fun ρ => T.bind (me ρ) finD) li lt li1 lt1 (fun ρ => .bind (le ρ) Lc.finD) hv hv1 h) lc
theorem wx_dc (hc : X.calm = true) (hN : X.N.Nodup) (hi : Wi X tg iter mi) (li : ∀ ρ, Lc (mi ρ)) (ok : BlkOk X.N X.env.scope scope own) (hv : ∀ i ∈ t.ix, i ∈ own.map (·.2)) (hg : InBlk X scope fun Y => PG Y tg (gT Y.K t)) (ht : InBlk X scope fun Y => Wc Y ifs mt) (lt : ∀ ρ, Lc (mt ρ))
    (hk : InBlk X scope fun Y => Wx Y kx mk) (lk : ∀ ρ, Lc (mk ρ)) (he : InBlk X scope fun Y => Wx Y vx me) (le : ∀ ρ, Lc (me ρ)) (hs : ∀ x, foldedSetIterable iter X.env x = pure x) : Wx X (.DictComp kx vx [⟨tg, iter, ifs, 0⟩] scope pos) (clOne (own.map (·.2)) t (.dK [] []) mi mt (kD mk me)) :=
  ⟨fun pins s σ H R I h => (pe_dc hc hN hi ok hg ht (fun s H C cl fp => pe_of0 (hk s H C cl fp) lk rfl) (fun s H C cl fp => pe_of0 (he s H C cl fp) le rfl) hs).run pins s σ H R I (tdc_of (mk := fun ρ => T.bind (mk ρ) finD) (md := fun ρ => T.bind (me ρ) finD) li lt (fun ρ => .bind (lk ρ) Lc.finD) (fun ρ => .bind (le ρ) Lc.finD) hv h)⟩
theorem ws_setDc {i : Nat} {y : Str} {py spos : Pos} {keep : Bool} (hc : X.calm = true) (hN : X.N.Nodup) (hy : X.N[i]? = some y) (hyl : X.env.scope.names.lookup y = some .local) (hsw : swapsWith (.DictComp kx vx [⟨tg, iter, ifs, 0⟩] scope pos) (some (.Name y py)) spos.line X.env = pure true)
    (hi : Wi X tg iter mi) (li : ∀ ρ, Lc (mi ρ)) (ok : BlkOk X.N X.env.scope scope own) (hv : ∀ i ∈ t.ix, i ∈ own.map (·.2)) (hg : InBlk X scope fun Y => PG Y tg (gT Y.K t)) (ht : InBlk X scope fun Y => Wc Y ifs mt) (lt : ∀ ρ, Lc (mt ρ))
    (hk : InBlk X scope fun Y => Wx Y kx mk) (lk : ∀ ρ, Lc (mk ρ)) (he : InBlk X scope fun Y => Wx Y vx me) (le : ∀ ρ, Lc (me ρ)) (hs : ∀ x, foldedSetIterable iter X.env x = pure x) (lc : ∀ ρ, Lc (clOne (own.map (·.2)) t (.dK [] []) mi mt (kD mk me) ρ)) :
    Ws X (.Assign [.Name y py] (.DictComp kx vx [⟨tg, iter, ifs, 0⟩] scope pos) spos) (fun b ρ G => lift (clOne (own.map (·.2)) t (.dK [] []) mi mt (kD mk me) ρ) ρ G fun w G1 => some (.nx, store b i keep w ρ G1)) :=
  ws_asgN (ps_setDc hc hN hy hyl hsw hi ok hg ht (fun s H C cl fp => pe_of0 (hk s H C cl fp) lk rfl) (fun s H C cl fp => pe_of0 (he s H C cl fp) le rfl) hs) (fun σ H R h => tdc_of (mk := fun ρ => T.bind (mk ρ) finD) (md := fun ρ => T.bind (me ρ) finD) li lt (fun ρ => .bind (lk ρ) Lc.finD) (fun ρ => .bind (le ρ) Lc.finD) hv h) lc
end
end L4

set_option Elab.async false
set_option linter.all false
set_option maxRecDepth 100000
set_option maxHeartbeats 4000000
/-! Sorting, once; built-in functions. -/
namespace L4
open PySem PySem.Spec PyProof.Rows L2
/-! ### sorted -/
theorem lt_cps : ∀ {a b : List Nat}, ltCps a b = decide (a < b)
  | [], [] => by simp [ltCps]
  | [], _ :: _ => by simp [ltCps]
  | _ :: _, [] => by simp [ltCps]
  | a :: r, b :: t => by
    have ih := @lt_cps r t
    unfold ltCps
    rw [ih]
    by_cases h1 : a < b
    · simp [h1, List.cons_lt_cons_iff]
    · by_cases h2 : a = b
      · subst h2; simp [List.cons_lt_cons_iff]
      · simp [h1, h2, List.cons_lt_cons_iff]
def leStr (a b : Str) : Prop := strLt b a = false
theorem leStr_iff {a b : Str} : leStr a b ↔ a.cps.toList ≤ b.cps.toList := by
  unfold leStr strLt
  simp
theorem leStr_trans {a b c : Str} (h1 : leStr a b) (h2 : leStr b c) : leStr a c := leStr_iff.mpr (List.le_trans (leStr_iff.mp h1) (leStr_iff.mp h2))
theorem leStr_anti {a b : Str} (h1 : leStr a b) (h2 : leStr b a) : a = b := by
  have := List.le_antisymm (leStr_iff.mp h1) (leStr_iff.mp h2)
  cases a; cases b
  simp at this
  subst this
  rfl
theorem leStr_total {a b : Str} (h : ¬ strLt a b = true) : leStr b a := by
  unfold leStr
  simpa using h
theorem leStr_of_lt {a b : Str} (h : strLt a b = true) : leStr a b := by
  rw [leStr_iff]
  unfold strLt at h
  exact List.le_of_lt (of_decide_eq_true h)
theorem risingS_pw : ∀ (l : List Str) (p : Str), risingS p l = true → (p :: l).Pairwise leStr
  | [], p, _ => List.pairwise_singleton _ _
  | x :: r, p, h => by
    unfold risingS at h
    obtain ⟨h1, h2⟩ := Bool.and_eq_true_iff.mp h
    have ih := risingS_pw r x h2
    have hpx : leStr p x := by
      unfold leStr strLt
      rw [lt_cps] at h1
      simpa using h1
    refine List.pairwise_cons.mpr ⟨fun y hy => ?_, ih⟩
    rcases List.mem_cons.mp hy with rfl | hy
    · exact hpx
    · exact leStr_trans hpx (List.rel_of_pairwise_cons ih hy)
theorem sortedS_pw {l : List Str} (h : sortedS l = true) : l.Pairwise leStr := by
  cases l with
  | nil => exact List.Pairwise.nil
  | cons x r => exact risingS_pw r x h
theorem insS_perm (x : Str) : ∀ l, (insS x l).Perm (x :: l)
  | [] => List.Perm.refl _
  | y :: r => by
    unfold insS
    split
    · exact ((insS_perm x r).cons y).trans (List.Perm.swap x y r)
    · exact List.Perm.refl _
theorem insS_pw (x : Str) : ∀ {l : List Str}, l.Pairwise leStr → (insS x l).Pairwise leStr
  | [], _ => List.pairwise_singleton _ _
  | y :: r, h => by
    unfold insS
    split
    · rename_i hlt
      refine List.pairwise_cons.mpr ⟨fun z hz => ?_, insS_pw x (List.pairwise_cons.mp h).2⟩
      rcases List.mem_cons.mp ((insS_perm x r).mem_iff.mp hz) with rfl | hz
      · exact leStr_of_lt hlt
      · exact List.rel_of_pairwise_cons h hz
    · rename_i hlt
      have hxy : leStr x y := leStr_total hlt
      refine List.pairwise_cons.mpr ⟨fun z hz => ?_, h⟩
      rcases List.mem_cons.mp hz with rfl | hz
      · exact hxy
      · exact leStr_trans hxy (List.rel_of_pairwise_cons h hz)
theorem sortS_perm : ∀ l, (sortS l).Perm l
  | [] => List.Perm.refl _
  | x :: r => (insS_perm x (sortS r)).trans ((sortS_perm r).cons x)
theorem sortS_pw : ∀ l, (sortS l).Pairwise leStr
  | [] => List.Pairwise.nil
  | x :: r => insS_pw x (sortS_pw r)
theorem sortS_uniq {ys xs : List Str} (h : ys.Perm xs) (s : sortedS ys = true) : ys = sortS xs :=
  List.Perm.eq_of_pairwise (le := leStr) (fun _ _ _ _ => leStr_anti) (sortedS_pw s) (sortS_pw xs) (h.trans (sortS_perm xs).symm)
theorem insI_perm (x : Int) : ∀ l, (insI x l).Perm (x :: l)
  | [] => List.Perm.refl _
  | y :: r => by
    unfold insI
    split
    · exact ((insI_perm x r).cons y).trans (List.Perm.swap x y r)
    · exact List.Perm.refl _
theorem insI_pw (x : Int) : ∀ {l : List Int}, l.Pairwise (· ≤ ·) → (insI x l).Pairwise (· ≤ ·)
  | [], _ => List.pairwise_singleton _ _
  | y :: r, h => by
    unfold insI
    split
    · rename_i hlt
      refine List.pairwise_cons.mpr ⟨fun z hz => ?_, insI_pw x (List.pairwise_cons.mp h).2⟩
      rcases List.mem_cons.mp ((insI_perm x r).mem_iff.mp hz) with rfl | hz
      · omega
      · exact List.rel_of_pairwise_cons h hz
    · rename_i hlt
      refine List.pairwise_cons.mpr ⟨fun z hz => ?_, h⟩
      rcases List.mem_cons.mp hz with rfl | hz
      · omega
      · have := List.rel_of_pairwise_cons h hz
        omega
theorem sortI_perm : ∀ l, (sortI l).Perm l
  | [] => List.Perm.refl _
  | x :: r => (insI_perm x (sortI r)).trans ((sortI_perm r).cons x)
theorem sortI_pw : ∀ l, (sortI l).Pairwise (· ≤ ·)
  | [] => List.Pairwise.nil
  | x :: r => insI_pw x (sortI_pw r)
theorem sortI_uniq {ys xs : List Int} (h : ys.Perm xs) (s : ys.Pairwise (· ≤ ·)) : ys = sortI xs :=
  List.Perm.eq_of_pairwise (le := (· ≤ ·)) (fun _ _ _ _ a b => Int.le_antisymm a b) s (sortI_pw xs) (h.trans (sortI_perm xs).symm)
theorem fold_max : ∀ (l : List Int) (a m : Int), l.foldl (fun m y => if m < y then y else m) a = m → (m = a ∨ m ∈ l) ∧ a ≤ m ∧ ∀ y ∈ l, y ≤ m
  | [], a, m, h => by
    cases h
    exact ⟨.inl rfl, Int.le_refl _, fun y hy => by cases hy⟩
  | x :: r, a, m, h => by
    rw [List.foldl_cons] at h
    obtain ⟨h1, h2, h3⟩ := fold_max r _ m h
    by_cases hx : a < x
    · rw [if_pos hx] at h1 h2
      refine ⟨?_, by omega, fun y hy => ?_⟩
      · rcases h1 with rfl | h1
        · exact .inr List.mem_cons_self
        · exact .inr (List.mem_cons_of_mem _ h1)
      · rcases List.mem_cons.mp hy with rfl | hy
        · exact h2
        · exact h3 y hy
    · rw [if_neg hx] at h1 h2
      refine ⟨?_, h2, fun y hy => ?_⟩
      · rcases h1 with rfl | h1
        · exact .inl rfl
        · exact .inr (List.mem_cons_of_mem _ h1)
      · rcases List.mem_cons.mp hy with rfl | hy
        · omega
        · exact h3 y hy
theorem fold_min : ∀ (l : List Int) (a m : Int), l.foldl (fun m y => if y < m then y else m) a = m → (m = a ∨ m ∈ l) ∧ m ≤ a ∧ ∀ y ∈ l, m ≤ y
  | [], a, m, h => by
    cases h
    exact ⟨.inl rfl, Int.le_refl _, fun y hy => by cases hy⟩
  | x :: r, a, m, h => by
    rw [List.foldl_cons] at h
    obtain ⟨h1, h2, h3⟩ := fold_min r _ m h
    by_cases hx : x < a
    · rw [if_pos hx] at h1 h2
      refine ⟨?_, by omega, fun y hy => ?_⟩
      · rcases h1 with rfl | h1
        · exact .inr List.mem_cons_self
        · exact .inr (List.mem_cons_of_mem _ h1)
      · rcases List.mem_cons.mp hy with rfl | hy
        · exact h2
        · exact h3 y hy
    · rw [if_neg hx] at h1 h2
      refine ⟨?_, h2, fun y hy => ?_⟩
      · rcases h1 with rfl | h1
        · exact .inl rfl
        · exact .inr (List.mem_cons_of_mem _ h1)
      · rcases List.mem_cons.mp hy with rfl | hy
        · omega
        · exact h3 y hy
end L4

set_option Elab.async false
set_option linter.all false
set_option maxRecDepth 100000
set_option maxHeartbeats 4000000
/-! Built-in functions. -/
namespace L4
open PySem PySem.Spec PyProof.Rows L2
section
variable {X : Cx} {σ : L2.St} {H : Hp} {μ : Nat → Addr} {ρ : Env} {F F1 : Hp} {G G1 G' : Cs} {e a b c o : Expr} {es : List Expr} {ma mb mc : Env → T Rv} {mas : Env → T (List Rv)} {pins : List (Addr × Obj)} {s : Shared} {τ : Tb} {q : Bool} {n : Nat} {pos p apos cpos : Pos} {r : Except Err Rv} {R : VK} {x f m : Str}
theorem intsL_ok {K : PySem.W.Frag} : ∀ {ds : List D} {ns : List Int} {vs : List V}, intsL ds = some ns → IsL K F ds vs → vs = ns.map V.int
  | [], _, _, h, i => by cases h; exact i
  | .int j :: ds, _, _, h, i => by
    unfold intsL at h
    obtain ⟨ns, h1, rfl⟩ := Option.map_eq_some_iff.mp h
    obtain ⟨v, r, rfl, i1, i2⟩ := i
    rw [intsL_ok h1 i2, show v = .int j from i1]
    rfl
  | .scr _ :: _, _, _, h, _ => by cases h
  | .ty _ :: _, _, _, h, _ => by cases h
  | .cl _ :: _, _, _, h, _ => by cases h
  | .non :: _, _, _, h, _ => by cases h
  | .bool _ :: _, _, _, h, _ => by cases h
  | .str _ :: _, _, _, h, _ => by cases h
  | .lst _ :: _, _, _, h, _ => by cases h
  | .tup _ :: _, _, _, h, _ => by cases h
  | .dK _ _ :: _, _, _, h, _ => by cases h
  | .dT _ _ :: _, _, _, h, _ => by cases h
  | .ins _ _ _ :: _, _, _, h, _ => by cases h
theorem boolsL_ok {K : PySem.W.Frag} : ∀ {ds : List D} {ns : List Bool} {vs : List V}, boolsL ds = some ns → IsL K F ds vs → vs = ns.map V.bl
  | [], _, _, h, i => by cases h; exact i
  | .bool j :: ds, _, _, h, i => by
    unfold boolsL at h
    obtain ⟨ns, h1, rfl⟩ := Option.map_eq_some_iff.mp h
    obtain ⟨v, r, rfl, i1, i2⟩ := i
    rw [boolsL_ok h1 i2, show v = .bl j from i1]
    rfl
  | .scr _ :: _, _, _, h, _ => by cases h
  | .ty _ :: _, _, _, h, _ => by cases h
  | .cl _ :: _, _, _, h, _ => by cases h
  | .non :: _, _, _, h, _ => by cases h
  | .int _ :: _, _, _, h, _ => by cases h
  | .str _ :: _, _, _, h, _ => by cases h
  | .lst _ :: _, _, _, h, _ => by cases h
  | .tup _ :: _, _, _, h, _ => by cases h
  | .dK _ _ :: _, _, _, h, _ => by cases h
  | .dT _ _ :: _, _, _, h, _ => by cases h
  | .ins _ _ _ :: _, _, _, h, _ => by cases h
/-- the built-in functions that are known -/
def Bf.val : Bf → Value
  | .len => .builtin "len" | .list => .type "list" | .tuple => .type "tuple" | .dict => .type "dict" | .sorted => .builtin "sorted" | .str => .type "str" | .int => .type "int" | .abs => .builtin "abs"
  | .sum => .builtin "sum" | .max => .builtin "max" | .min => .builtin "min" | .all => .builtin "all" | .any => .builtin "any" | .repr => .builtin "repr"
def Bf.name : Bf → Str
  | .len => "len" | .list => "list" | .tuple => "tuple" | .dict => "dict" | .sorted => "sorted" | .str => "str" | .int => "int" | .abs => "abs"
  | .sum => "sum" | .max => "max" | .min => "min" | .all => "all" | .any => "any" | .repr => "repr"
theorem sees_one {K : PySem.W.Frag} {d : D} {vs : List V} (h : SeesL K F H [d] vs) : ∃ v, vs = [v] ∧ Sees K F H d v := by
  cases h with
  | cons h t => cases t; exact ⟨_, rfl, h⟩
theorem sees_two {K : PySem.W.Frag} {d d2 : D} {vs : List V} (h : SeesL K F H [d, d2] vs) : ∃ v v2, vs = [v, v2] ∧ Sees K F H d v ∧ Sees K F H d2 v2 := by
  cases h with
  | cons h t => cases t with
    | cons h' t' => cases t'; exact ⟨_, _, rfl, h, h'⟩
theorem sees_dKd {K : PySem.W.Frag} {ks : List Key} {ds : List D} {v : V} (h : Sees K F H (.dK ks ds) v) : ∃ a vs, v = .ref a ∧ Rd H a (.dK (ks.zip vs)) ∧ ks.length = vs.length ∧ IsL K F ds vs := h
theorem zip_keys {ks : List Key} {vs : List V} (h : ks.length = vs.length) : ((ks.zip vs).map fun kv => kV kv.1) = ks.map kV := by
  rw [show (fun kv : Key × V => kV kv.1) = kV ∘ Prod.fst from rfl, ← List.map_map, List.map_fst_zip (by omega)]
/-- a built-in function on data -/
theorem opv_blt {x : Bf} {ds : List D} {vs : List V} {us : List Value} {w : Rv} (hc : X.calm = true) (I : Inv X pins σ H s) (rp : Rep X.K μ F G H) (sa : SeesL X.K F H ds vs) (rv : Vals vs us) (hx : bltD x ds = some w) (fn : Fn' X σ μ F G (.ok w) R) :
    wpAny (model X.prog X.w) X.A (PySem.call x.val us) (EP X pins σ R) X.xe s := by
  unfold bltD at hx
  split at hx
  · obtain ⟨v, rfl, sv⟩ := sees_one sa
    obtain ⟨k, hk, rfl⟩ := Option.map_eq_some_iff.mp hx
    unfold lenD at hk
    split at hk
    · cases hk
      obtain ⟨a, ys, rfl, h1, h2⟩ := sees_lst sv
      exact call_len_seq pins s σ H _ us R I rv ⟨a, ys, rfl, .inl h1, fn.dat rp rfl (by rw [h2.length]; rfl)⟩
    · cases hk
      obtain ⟨a, ys, rfl, _, h1, h2⟩ := sees_tup rp.sub sv
      exact call_len_seq pins s σ H _ us R I rv ⟨a, ys, rfl, .inr h1, fn.dat rp rfl (by rw [h2.length]; rfl)⟩
    · cases hk
      obtain ⟨a, rfl, h1, h2⟩ := sees_scr rp.sub sv
      exact call_len_seq pins s σ H _ us R I rv ⟨a, _, rfl, .inl h1, fn.dat rp rfl (by rw [List.length_map]; rfl)⟩
    · obtain ⟨c, hk⟩ := askO_ok hk
      cases hk
      exact call_len_str pins s σ H _ us R I rv ⟨_, by rw [show v = .str _ from sv], line_ok (of_decide_eq_true c), fn.dat rp rfl rfl⟩
    · cases hk
      obtain ⟨a, ys, rfl, h1, h2, h3⟩ := sees_dKd sv
      obtain ⟨u, rfl, ru⟩ := vals1 rv
      cases (show u = Value.ref a from ru)
      rename_i ks _
      refine d_len I h1 fun t s' I' => ⟨.int ks.length, H, I', ⟨t, by rw [List.length_zip]; congr 2; omega⟩, fn.dat rp rfl rfl⟩
    · cases hk
  · obtain ⟨v, rfl, sv⟩ := sees_one sa
    unfold bltL at hx
    split at hx
    · obtain ⟨c, hx⟩ := askO_ok hx
      cases hx
      obtain ⟨a, ys, rfl, h1, h2⟩ := sees_lst sv
      exact call_list_of pins s σ H _ us R I rv ⟨a, ys, rfl, .inl h1, fun l nl => fn.new rp rfl nl ⟨ys, upd_same, h2⟩⟩
    · obtain ⟨c, hx⟩ := askO_ok hx
      cases hx
      obtain ⟨a, ys, rfl, _, h1, h2⟩ := sees_tup rp.sub sv
      exact call_list_of pins s σ H _ us R I rv ⟨a, ys, rfl, .inr h1, fun l nl => fn.new rp rfl nl ⟨ys, upd_same, h2⟩⟩
    · obtain ⟨c, hx⟩ := askO_ok hx
      cases hx
      obtain ⟨a, rfl, h1, h2⟩ := sees_scr rp.sub sv
      exact call_list_of pins s σ H _ us R I rv ⟨a, _, rfl, .inl h1, fun l nl => fn.new rp rfl nl ⟨_, upd_same, h2⟩⟩
    · cases hx
      obtain ⟨a, ys, rfl, h1, h2, h3⟩ := sees_dKd sv
      exact call_listD hc pins s σ H _ us R I rv ⟨a, _, rfl, h1, fun l nl => by
        rw [zip_keys h2]
        exact fn.new rp rfl nl ⟨_, upd_same, is_keys _⟩⟩
    · cases hx
  · obtain ⟨v, rfl, sv⟩ := sees_one sa
    unfold bltT at hx
    split at hx
    · obtain ⟨c, hx⟩ := askO_ok hx
      cases hx
      obtain ⟨a, ys, rfl, h1, h2⟩ := sees_lst sv
      exact call_tuple_of pins s σ H _ us R I rv ⟨a, ys, rfl, .inl ⟨h1, fun l nl => fn.newF rp rfl nl ⟨l, ys, rfl, upd_same, h2.mono (Ex.new (rp.sub.none nl))⟩⟩⟩
    · cases hx
      obtain ⟨a, ys, rfl, hF, h1, h2⟩ := sees_tup rp.sub sv
      exact call_tuple_of pins s σ H _ us R I rv ⟨a, ys, rfl, .inr ⟨h1, fn.dat rp rfl ⟨a, ys, rfl, hF, h2⟩⟩⟩
    · cases hx
  · obtain ⟨v, rfl, sv⟩ := sees_one sa
    unfold bltDi at hx
    split at hx
    · cases hx
      obtain ⟨a, ys, rfl, h1, h2, h3⟩ := sees_dKd sv
      exact call_dictD pins s σ H _ us R I rv ⟨a, _, rfl, h1, fun l nl => fn.new rp rfl nl ⟨ys, upd_same, h2, h3⟩⟩
    · cases hx
  · obtain ⟨v, rfl, sv⟩ := sees_one sa
    unfold bltSo at hx
    split at hx
    · split at hx
      · rename_i _ _ ss hss
        obtain ⟨c, hx⟩ := askO_ok hx
        cases hx
        obtain ⟨a, ys, rfl, h1, h2⟩ := sees_lst sv
        rw [strsL_ok hss h2] at h1
        exact cr_sortedS pins s σ H _ us R I rv ⟨a, ss, rfl, h1, of_decide_eq_true c, fun zs l hp hs nl => by
          rw [sortS_uniq hp hs]
          exact fn.new rp rfl nl ⟨_, upd_same, isL_strs _⟩⟩
      · rename_i _ _ ns _ hns
        obtain ⟨c, hx⟩ := askO_ok hx
        cases hx
        obtain ⟨a, ys, rfl, h1, h2⟩ := sees_lst sv
        rw [intsL_ok hns h2] at h1
        exact cr_sorted pins s σ H _ us R I rv ⟨a, ns, rfl, h1, of_decide_eq_true c, fun zs l hp hs nl => by
          rw [sortI_uniq hp hs]
          exact fn.new rp rfl nl ⟨_, upd_same, isL_ints _⟩⟩
      · cases hx
    · cases hx
  · obtain ⟨v, rfl, sv⟩ := sees_one sa
    unfold bltS at hx
    split at hx
    · cases hx
      exact SkE.call_str_str pins s σ H _ us R I rv ⟨_, by rw [show v = .str _ from sv], fn.dat rp rfl rfl⟩
    · obtain ⟨c, hx⟩ := askO_ok hx
      cases hx
      exact call_str_int pins s σ H _ us R I rv ⟨_, by rw [show v = .int _ from sv], of_decide_eq_true c, fn.dat rp rfl rfl⟩
    · cases hx
  · obtain ⟨v, rfl, sv⟩ := sees_one sa
    unfold bltI at hx
    split at hx
    · cases hx
      exact call_int1 pins s σ H _ us R I rv (.inl ⟨_, by rw [show v = .int _ from sv], fn.dat rp rfl rfl⟩)
    · cases hx
      exact call_int1 pins s σ H _ us R I rv (.inr ⟨_, by rw [show v = .bl _ from sv], fn.dat rp rfl rfl⟩)
    · obtain ⟨c, hx⟩ := askO_ok hx
      obtain ⟨k, hk, rfl⟩ := Option.map_eq_some_iff.mp hx
      exact call_int_str pins s σ H _ us R I rv ⟨_, k, by rw [show v = .str _ from sv], hk, of_decide_eq_true c, fn.dat rp rfl rfl⟩
    · cases hx
  · obtain ⟨v, rfl, sv⟩ := sees_one sa
    cases hx
    exact call_abs pins s σ H _ us R I rv ⟨_, by rw [show v = .int _ from sv], fn.dat rp rfl rfl⟩
  · obtain ⟨v, rfl, sv⟩ := sees_one sa
    obtain ⟨ns, hns, rfl⟩ := Option.map_eq_some_iff.mp hx
    obtain ⟨a, ys, rfl, h1, h2⟩ := sees_lst sv
    rw [intsL_ok hns h2] at h1
    exact cr_sum hc pins s σ H _ us R I rv ⟨a, ns, rfl, h1, fn.dat rp rfl rfl⟩
  · obtain ⟨v, rfl, sv⟩ := sees_one sa
    obtain ⟨k, hk, rfl⟩ := Option.map_eq_some_iff.mp hx
    obtain ⟨ns, hns, hk⟩ := Option.bind_eq_some_iff.mp hk
    obtain ⟨a, ys, rfl, h1, h2⟩ := sees_lst sv
    rw [intsL_ok hns h2] at h1
    cases ns with
    | nil => cases hk
    | cons n0 ns =>
      have hk : some (ns.foldl (fun m y => if m < y then y else m) n0) = some k := hk
      obtain ⟨m1, m2, m3⟩ := fold_max ns n0 k (Option.some.inj hk)
      refine cr_max hc pins s σ H _ us R I rv ⟨a, _, rfl, h1, Nat.succ_pos _, fun m hm hy => ?_⟩
      have : m = k := by
        refine Int.le_antisymm ?_ (hy k ?_)
        · rcases List.mem_cons.mp hm with rfl | hm
          · exact m2
          · exact m3 m hm
        · rcases m1 with rfl | m1
          · exact List.mem_cons_self
          · exact List.mem_cons_of_mem _ m1
      subst this
      exact fn.dat rp rfl rfl
  · obtain ⟨v, rfl, sv⟩ := sees_one sa
    obtain ⟨k, hk, rfl⟩ := Option.map_eq_some_iff.mp hx
    obtain ⟨ns, hns, hk⟩ := Option.bind_eq_some_iff.mp hk
    obtain ⟨a, ys, rfl, h1, h2⟩ := sees_lst sv
    rw [intsL_ok hns h2] at h1
    cases ns with
    | nil => cases hk
    | cons n0 ns =>
      have hk : some (ns.foldl (fun m y => if y < m then y else m) n0) = some k := hk
      obtain ⟨m1, m2, m3⟩ := fold_min ns n0 k (Option.some.inj hk)
      refine cr_min hc pins s σ H _ us R I rv ⟨a, _, rfl, h1, Nat.succ_pos _, fun m hm hy => ?_⟩
      have : m = k := by
        refine Int.le_antisymm (hy k ?_) ?_
        · rcases m1 with rfl | m1
          · exact List.mem_cons_self
          · exact List.mem_cons_of_mem _ m1
        · rcases List.mem_cons.mp hm with rfl | hm
          · exact m2
          · exact m3 m hm
      subst this
      exact fn.dat rp rfl rfl
  · obtain ⟨v, rfl, sv⟩ := sees_one sa
    obtain ⟨bs, hbs, rfl⟩ := Option.map_eq_some_iff.mp hx
    obtain ⟨a, ys, rfl, h1, h2⟩ := sees_lst sv
    rw [boolsL_ok hbs h2] at h1
    exact cr_all hc pins s σ H _ us R I rv ⟨a, bs, rfl, h1, fn.dat rp rfl rfl⟩
  · obtain ⟨v, rfl, sv⟩ := sees_one sa
    obtain ⟨bs, hbs, rfl⟩ := Option.map_eq_some_iff.mp hx
    obtain ⟨a, ys, rfl, h1, h2⟩ := sees_lst sv
    rw [boolsL_ok hbs h2] at h1
    exact cr_any hc pins s σ H _ us R I rv ⟨a, bs, rfl, h1, fn.dat rp rfl rfl⟩
  · rename_i i j
    obtain ⟨v1, v2, rfl, s1, s2⟩ := sees_two sa
    rw [show v1 = .int _ from s1, show v2 = .int _ from s2] at rv
    cases hx
    exact call_max2 hc pins s σ H _ us R I rv ⟨_, _, rfl, fn.dat rp rfl rfl⟩
  · obtain ⟨v1, v2, rfl, s1, s2⟩ := sees_two sa
    rw [show v1 = .int _ from s1, show v2 = .int _ from s2] at rv
    cases hx
    exact call_min2 hc pins s σ H _ us R I rv ⟨_, _, rfl, fn.dat rp rfl rfl⟩
  · cases hx
theorem Bf.kind (x : Bf) : (∃ id, x.val = .builtin id) ∨ ∃ id, x.val = .type id := by
  cases x <;> first | exact .inl ⟨_, rfl⟩ | exact .inr ⟨_, rfl⟩
theorem boot_ok (x : Bf) : bootBuiltins x.name = some x.val ∧ x.name ≠ "__name__" ∧ (x.name == ("__debug__" : Str)) = false := by
  cases x <;> exact ⟨by decide +kernel, by decide +kernel, by decide +kernel⟩
def bltF (q : Bool) (x : Bf) (ds : List D) : Option Rv := match x with
  | .repr => repD q ds
  | x => bltD x ds
theorem eBlt_ok {x : Bf} {ws : List Rv} (h : eBlt q x ws G = some (r, G')) : G' = G ∧ ∃ ds w, ws.mapM (see G) = some ds ∧ bltF q x ds = some w ∧ r = .ok w := by
  have h : (match (ws.mapM (see G)).bind (bltF q x) with
    | some r => some (.ok r, G)
    | none => none) = some (r, G') := by
    unfold eBlt at h
    cases x <;> exact h
  cases hb : (ws.mapM (see G)).bind (bltF q x) with
  | none => rw [hb] at h; cases h
  | some w =>
    rw [hb] at h
    cases h
    obtain ⟨ds, h1, h2⟩ := Option.bind_eq_some_iff.mp hb
    exact ⟨rfl, ds, w, h1, h2, rfl⟩
/-- f(..), a built-in function (not repr) -/
theorem wx_blt {x : Bf} (hr : x ≠ .repr) (hc : X.calm = true) (ha : WxA X (e :: es) mas) (la : ∀ ρ, Lc (mas ρ)) (hg : Gl X x.name) (hm : X.mg x.name = none) (hs : starEach (e :: es) X.env = (false, eval e X.env) :: starEach es X.env) (hpl : (backTo pos (starEach es X.env)).any (·.1) = false) :
    Wx X (.Call (.Name x.name p) (e :: es) [] pos) (fun ρ => T.bind (mas ρ) fun ws => eBlt q x ws) := by
  refine ⟨fun pins s σ H R I ht => ?_⟩
  obtain ⟨μ, ρ, F, G, r, G', A, hx, fe, k⟩ := ht
  obtain ⟨b1, b2, b3⟩ := boot_ok x
  have fin : ∀ {us : List Value} {s1 : Shared}, (∃ vs H1 ws G1 F1, Inv X pins σ H1 s1 ∧ Vals vs us ∧ eBlt q x ws G1 = some (r, G') ∧ Ex F F1 ∧ At X σ H1 μ ρ F1 G1 ∧ G1.length = G.length ∧ FinE X σ μ F1 G' r ∧ NoN ws ∧ Paired (IsW X μ F1 G1 H1) ws vs) →
      wpAny (model X.prog X.w) X.A (PySem.call x.val us) (EP X pins σ R) X.xe s1 := by
    rintro us s1 ⟨vs, H1, ws, G1, F1, I1, rv, h1, h2, h3, hl, h4, n1, iws⟩
    obtain ⟨rfl, ds, w, e1, e2, rfl⟩ := eBlt_ok h1
    have e2 : bltD x ds = some w := by
      unfold bltF at e2
      split at e2
      · exact absurd rfl hr
      · exact e2
    exact opv_blt hc I1 h3.rep (sees_L h3.rep iws e1) rv e2 ⟨h4, fun w' e F' H' v e1 rp i => k w' e F' H' (h2.trans e1) rp v i⟩
  have go := ha.go pos I A (la ρ) hx fe
  refine wpAny_Call_Name_kw (ld_blt I hg hm b1 ?_ b2 b3)
  rcases x.kind with ⟨id, hid⟩ | ⟨id, hid⟩
  · rw [hid] at fin ⊢
    exact PyProof.Rows.callWith_builtin1 (thn go fun us s1 z => fin z) hs hpl
  · rw [hid] at fin ⊢
    exact PyProof.Rows.callWith_type1 (thn go fun us s1 z => fin z) hs hpl
end
end L4

set_option Elab.async false
set_option linter.all false
set_option maxRecDepth 100000
set_option maxHeartbeats 4000000
/-! isinstance. -/
namespace L4
open PySem PySem.Spec PyProof.Rows L2
def Ty.v (K : PySem.W.Frag) : Ty → V
  | .bt _ T => .ty T
  | .cl C => .ref (He.ga K C)
def Ty.val (K : PySem.W.Frag) : Ty → Value
  | .bt _ T => .type T
  | .cl C => .ref (He.ga K C)
def TyOk (τ : Tb) : Ty → Prop
  | .bt _ T => T ∈ tags
  | .cl C => τ.pg.cls C = true
theorem Ty.clsv (K : PySem.W.Frag) (t : Ty) : ClsV (t.v K) (t.val K) := by
  cases t with
  | bt x T => exact .ty T
  | cl C => exact .own _
theorem kitB_tags : ∀ a ∈ tags, ∀ b ∈ tags, kitB a b = some (a == b || (a == "bool" && b == "int")) := by decide +kernel
section
variable {X : Cx} {σ : L2.St} {H : Hp} {μ : Nat → Addr} {ρ : Env} {F F1 : Hp} {G G1 G' : Cs} {e a b c o eT eU : Expr} {es : List Expr} {ma mb mc : Env → T Rv} {pins : List (Addr × Obj)} {s : Shared} {τ : Tb} {q : Bool} {n : Nat} {pos p apos cpos tpos : Pos} {r : Except Err Rv} {R : VK}
/-- what the type of a datum says -/
theorem kit_isT {d : D} {v : V} {u : Value} (gd : Good τ q n X) (I : Inv X pins σ H s) (rp : Rep X.K μ F G H) (h : Sees X.K F H d v) (r : RelV v u) (hd : ∃ ty b, isT (hd τ.pg q n) ty d = some b) :
    ∃ (t : Value) (P : Heap → Prop), PySem.W.KitX X.K u t P ∧ P s.heap ∧ u ≠ .builtin "__main__.__loader__#opaque" ∧ ∀ ty b, TyOk τ ty → isT (L4.hd τ.pg q n) ty d = some b → PySem.W.kitOne X.K t (ty.val X.K) = some b := by
  cases ht : tagOf d with
  | some T =>
    obtain ⟨P, k1, k2, k3⟩ := kit_see gd I rp h r (.inl ⟨T, ht, rfl⟩)
    refine ⟨.type T, P, k1, k2, k3, fun ty b ok hx => ?_⟩
    cases ty with
    | bt x T' =>
      unfold isT at hx
      dsimp only at hx
      rw [ht] at hx
      cases hx
      exact kit_ty (kitB_tags T (tag_in ht) T' ok)
    | cl C =>
      unfold isT at hx
      dsimp only at hx
      rw [ht] at hx
      cases hx
      exact (gd.kn.cls C ok).of T (tag_in ht)
  | none =>
    obtain ⟨ty0, b0, hd0⟩ := hd
    have : ∃ C, insOf d = some C ∧ τ.pg.cls C = true := by
      cases hi : insOf d with
      | none => cases ty0 <;> (unfold isT at hd0; dsimp only at hd0; rw [ht, hi] at hd0; cases hd0)
      | some C =>
        refine ⟨C, rfl, ?_⟩
        cases hc : τ.pg.cls C with
        | true => rfl
        | false =>
          have hc' : (L4.hd τ.pg q n).cls C = false := hc
          cases ty0 <;> (unfold isT at hd0; dsimp only at hd0; rw [ht, hi] at hd0; dsimp only at hd0; rw [hc'] at hd0; cases hd0)
    obtain ⟨C, hi, hc⟩ := this
    have hc' : (L4.hd τ.pg q n).cls C = true := hc
    obtain ⟨P, k1, k2, k3⟩ := kit_see gd I rp h r (.inr ⟨C, hi, hc, rfl⟩)
    refine ⟨_, P, k1, k2, k3, fun ty b ok hx => ?_⟩
    cases ty with
    | bt x T' =>
      unfold isT at hx
      dsimp only at hx
      rw [ht, hi] at hx
      dsimp only at hx
      rw [hc'] at hx
      cases hx
      exact (gd.kn.cls C hc).to T' ok
    | cl C' =>
      unfold isT at hx
      dsimp only at hx
      rw [ht, hi] at hx
      dsimp only at hx
      rw [hc'] at hx
      cases hx
      by_cases e : C = C'
      · subst e
        rw [decide_eq_true rfl]
        exact (gd.kn.cls C hc).self
      · rw [decide_eq_false e]
        exact gd.kn.two C C' hc ok e
theorem boot_isi : bootBuiltins ("isinstance" : Str) = some (.builtin "isinstance") := by decide +kernel
/-- isinstance(a, T) -/
theorem wx_isi {ty : Ty} (gd : Good τ q n X) (ok : TyOk τ ty) (ha : Wx X a ma) (la : ∀ ρ, Lc (ma ρ)) (hT : PE X eT (tC (ty.v X.K))) (hg : Gl X "isinstance") (hm : X.mg "isinstance" = none)
    (hs : starEach [a, eT] X.env = (false, eval a X.env) :: starEach [eT] X.env) (hs2 : starEach [eT] X.env = (false, eval eT X.env) :: starEach [] X.env) (hpl : (backTo pos (starEach [eT] X.env)).any (·.1) = false) :
    Wx X (.Call (.Name "isinstance" p) [a, eT] [] pos) (fun ρ => T.bind (T.bind (ma ρ) fin) fun x => fun G => match (see G x).bind (isT (hd τ.pg q n) ty) with
    | some b => some (.ok (.d (.bool b)), G)
    | none => none) := by
  refine ⟨fun pins s σ H R I ht => ?_⟩
  obtain ⟨μ, ρ, F, G, r, G', A, hx, fe, k⟩ := ht
  refine wpAny_Call_Name_kw (ld_blt I hg hm boot_isi ?_ (by decide +kernel) (by decide +kernel))
  refine PyProof.Rows.callWith_builtin1 (thn ((pa_cons (ha.frz la) (pa_cons hT pa_nil hs2) hs).run pos pins s σ H (fun vs H1 => ∃ w G1 F1 v, vs = [v, ty.v X.K] ∧ (∀ u, w ≠ .n u) ∧ (match (see G1 w).bind (isT (hd τ.pg q n) ty) with
    | some b => some (.ok (.d (.bool b)), G1)
    | none => none) = some (r, G') ∧ Ex F F1 ∧ At X σ H1 μ ρ F1 G1 ∧ FinE X σ μ F1 G' r ∧ IsW X μ F1 G1 H1 w v) I ?_) fun us s1 hz => ?_) hs hpl
  · exact tE_go (m := fun ρ => T.bind (ma ρ) L4.fin) A (.bind (la ρ) Lc.fin) hx fe fun w G1 F1 H1 v h0 h1 h2 h3 hl h4 h5 => ⟨w, G1, F1, v, rfl, fin_eq h0, h1, h2, h3, h4, h5⟩
  · obtain ⟨vs, H1, I1, rv, w, G1, F1, v, rfl, nn, h1, h2, h3, h4, h5⟩ := hz
    cases hb : (see G1 w).bind (isT (hd τ.pg q n) ty) with
    | none => rw [hb] at h1; cases h1
    | some b =>
      rw [hb] at h1
      cases h1
      obtain ⟨d, hd1, hd2⟩ := Option.bind_eq_some_iff.mp hb
      obtain ⟨u1, u2, rfl, r1, r2⟩ := vals2 rv
      have e2 := (ty.clsv X.K).eq r2
      subst e2
      obtain ⟨t, P, Z, p, hx, hk⟩ := kit_isT gd I1 h3.rep (h5.sees h3.rep hd1) r1 ⟨ty, b, hd2⟩
      exact PySem.W.kia_one Z I1.kIn p (hk ty b ok hd2) hx fun tk => ⟨.bl b, H1, I1.tok tk, rfl, k _ rfl F1 H1 h2 h3.rep (.bl b) rfl⟩
/-- isinstance(a, (T, U)) -/
theorem wx_isi2 {ty tu : Ty} {kk : Nat} (gd : Good τ q n X) (ok : TyOk τ ty) (ok2 : TyOk τ tu) (ha : Wx X a ma) (la : ∀ ρ, Lc (ma ρ)) (hT : PE X eT (tC (ty.v X.K))) (hU : PE X eU (tC (tu.v X.K))) (hg : Gl X "isinstance") (hm : X.mg "isinstance" = none)
    (hs : starEach [a, .Tuple [eT, eU] kk tpos] X.env = (false, eval a X.env) :: starEach [.Tuple [eT, eU] kk tpos] X.env) (hsT : starEach [eT, eU] X.env = (false, eval eT X.env) :: starEach [eU] X.env) (hsU : starEach [eU] X.env = (false, eval eU X.env) :: starEach [] X.env) :
    Wx X (.Call (.Name "isinstance" p) [a, .Tuple [eT, eU] kk tpos] [] pos) (fun ρ => T.bind (T.bind (ma ρ) fin) fun x => fun G => match (see G x).bind (isT (hd τ.pg q n) ty), (see G x).bind (isT (hd τ.pg q n) tu) with
    | some b, some c => some (.ok (.d (.bool (b || c))), G)
    | _, _ => none) := by
  refine ⟨fun pins s σ H R I ht => ?_⟩
  obtain ⟨μ, ρ, F, G, r, G', A, hx, fe, k⟩ := ht
  refine wpAny_Call_Name_kw (ld_blt I hg hm boot_isi ?_ (by decide +kernel) (by decide +kernel))
  refine PyProof.Rows.callWith_builtin1 (thn ((pa_cons (ha.frz la) (pa_cons (pe_tup (pa_cons hT (pa_cons hU pa_nil hsU) hsT)) pa_nil rfl) hs).run pos pins s σ H (fun vs H1 => ∃ w G1 F1 v pp, vs = [v, .ref pp] ∧ H1 pp = some (.tup [ty.v X.K, tu.v X.K]) ∧ (match (see G1 w).bind (isT (hd τ.pg q n) ty), (see G1 w).bind (isT (hd τ.pg q n) tu) with
    | some b, some c => some (.ok (.d (.bool (b || c))), G1)
    | _, _ => none) = some (r, G') ∧ Ex F F1 ∧ At X σ H1 μ ρ F1 G1 ∧ FinE X σ μ F1 G' r ∧ (∀ u, w ≠ .n u) ∧ IsW X μ F1 G1 H1 w v) I ?_) fun us s1 hz => ?_) hs rfl
  · refine tE_go (m := fun ρ => T.bind (ma ρ) L4.fin) A (.bind (la ρ) Lc.fin) hx fe fun w G1 F1 H1 v h0 h1 h2 h3 hl h4 h5 => ?_
    refine ⟨by show 2 ≤ sizeLine; decide, fun pp np => ?_⟩
    exact ⟨w, G1, F1, v, pp, rfl, upd_same, h1, h2, ⟨h3.env, h3.rep.new np⟩, h4, fin_eq h0, h5.mono (fin_eq h0) (Ex.refl _) (Nat.le_refl _)⟩
  · obtain ⟨vs, H1, I1, rv, w, G1, F1, v, pp, rfl, hpp, h1, h2, h3, h4, nn, h5⟩ := hz
    cases hb : (see G1 w).bind (isT (hd τ.pg q n) ty) with
    | none => rw [hb] at h1; cases h1
    | some b =>
      cases hc : (see G1 w).bind (isT (hd τ.pg q n) tu) with
      | none => rw [hb, hc] at h1; cases h1
      | some c =>
        rw [hb, hc] at h1
        cases h1
        obtain ⟨d, hd1, hd2⟩ := Option.bind_eq_some_iff.mp hb
        obtain ⟨d', hd1', hd3⟩ := Option.bind_eq_some_iff.mp hc
        rw [hd1] at hd1'
        cases hd1'
        obtain ⟨u1, u2, rfl, r1, r2⟩ := vals2 rv
        cases (show u2 = Value.ref pp from r2)
        obtain ⟨t, P, Z, p, hx, hk⟩ := kit_isT gd I1 h3.rep (h5.sees h3.rep hd1) r1 ⟨ty, b, hd2⟩
        obtain ⟨_, its, rvi, o, g1, g2, m, g3⟩ := (show ObjOk X.prog X.w H1 s1.heap pp (.tup [ty.v X.K, tu.v X.K]) from I1.hok pp _ hpp)
        have e3 := ClsV.all (.cons (ty.clsv X.K) (.cons (tu.clsv X.K) .nil)) rvi
        subst e3
        obtain ⟨oc, od, dt, sl⟩ := o
        simp only at g2 g3
        subst g2 g3
        refine PySem.W.kia_tup Z I1.kIn p g1 (b := b || c) (kitAny_cons (hk ty b ok hd2) (fun e => ?_) (fun e => by rw [e]; rfl)) hx fun tk => ⟨.bl (b || c), H1, I1.tok tk, rfl, k _ rfl F1 H1 h2 h3.rep (.bl (b || c)) rfl⟩
        rw [e]
        exact kitAny_cons (hk tu c ok2 hd3) (fun e => by rw [e]; rfl) (fun e => by rw [e]; rfl)
end
end L4

set_option Elab.async false
set_option linter.all false
set_option maxRecDepth 100000
set_option maxHeartbeats 4000000
/-! Stars in displays. -/
namespace L4
open PySem PySem.Spec PyProof.Rows L2
section
variable {X : Cx} {σ : L2.St} {H : Hp} {μ : Nat → Addr} {ρ : Env} {F F1 : Hp} {G G1 G' : Cs} {e : Expr} {es : List Expr} {ma : Env → T Rv} {mds : Env → T (List D)} {p : Pos}
theorem walkD_ok' {g : D → Option (List D)} {w : Rv} {r : Except Err (List D)} (h : walkD g w G = some (r, G')) : G' = G ∧ ∃ u xs, see G w = some u ∧ g u = some xs ∧ r = .ok xs := by
  unfold walkD at h
  cases hb : (see G w).bind g with
  | none => rw [hb] at h; cases h
  | some xs =>
    rw [hb] at h
    cases h
    obtain ⟨u, h1, h2⟩ := Option.bind_eq_some_iff.mp hb
    exact ⟨rfl, u, xs, h1, h2, rfl⟩
theorem wxd_star (ha : Wx X e ma) (hr : WxD X es mds) (la : ∀ ρ, Lc (ma ρ)) (lr : ∀ ρ, Lc (mds ρ)) :
    WxD X (.Starred e p :: es) (fun ρ => T.bind (T.bind (T.bind (ma ρ) fin) (walkD seqI)) fun us => T.bind (mds ρ) fun ws => T.pure (us ++ ws)) := by
  refine ⟨fun pos pins s σ H R I ht => ?_⟩
  obtain ⟨μ, ρ, F, G, r, G', A, hx, fe, k⟩ := ht
  have hx : T.bind (T.bind (T.bind (ma ρ) fin) (walkD seqI)) (fun us => T.bind (mds ρ) fun ws => T.pure (us ++ ws)) G = some (r, G') := hx
  rw [T.bind_assoc] at hx
  refine (StX.pa_star (ha.frz la) hr rfl).run pos pins s σ H R I (tE_go (m := fun ρ => T.bind (ma ρ) L4.fin) A (.bind (la ρ) Lc.fin) hx fe fun w G1 F1 H1 v h0 h1 h2 h3 hl h4 h5 => ?_)
  rcases T.bind_ok h1 with ⟨er, h6, _⟩ | ⟨us, G2, h6, h7⟩
  · obtain ⟨_, _, _, _, _, z⟩ := walkD_ok' h6
    cases z
  · obtain ⟨rfl, u, xs, hu1, hu2, z⟩ := walkD_ok' h6
    cases z
    have su := h5.sees h3.rep hu1
    have rest : ∀ vs, IsL X.K F1 us vs → tD X mds σ H1 (fun ws H2 => R (vs ++ ws) H2) := fun vs iv => tM_go h3 (lr ρ) h7 h4 fun ds G3 F3 H3 _ k1 k2 k3 kl k4 vs' i => by
      cases k1
      exact k _ rfl F3 H3 (h2.trans k2) k3.rep _ ((iv.mono k2).append i)
    unfold seqI at hu2
    split at hu2
    · cases hu2
      obtain ⟨a, vs, rfl, e2, e3⟩ := sees_lst su
      exact ⟨a, vs, rfl, .inr e2, rest vs e3⟩
    · cases hu2
      obtain ⟨a, vs, rfl, _, e2, e3⟩ := sees_tup h3.rep.sub su
      exact ⟨a, vs, rfl, .inl e2, rest vs e3⟩
    · cases hu2
      obtain ⟨a, rfl, e2, e3⟩ := sees_scr h3.rep.sub su
      exact ⟨a, _, rfl, .inr e2, rest _ e3⟩
    · cases hu2
/-- {} -/
theorem wx_dct0 {pos : Pos} : Wx X (.Dict [] [] pos) (fun _ => T.bind (T.pure []) fun ps => liftO ((dictOf ps (.dK [] [])).map Rv.n)) := by
  refine ⟨fun pins s σ H R I ht => ?_⟩
  obtain ⟨μ, ρ, F, G, r, G', A, hx, fe, k⟩ := ht
  have hx : some (Except.ok (Rv.n (.dK [] [])), G) = some (r, G') := hx
  cases hx
  refine pe_dnewK.run pins s σ H R I ?_
  intro p np
  exact k _ rfl F _ (Ex.refl F) (A.rep.new np) _ ⟨p, rfl, A.rep.sub.none np, A.rep.off np, ⟨[], upd_same, rfl, IsL.nil⟩⟩
end
end L4

set_option Elab.async false
set_option linter.all false
set_option maxRecDepth 100000
set_option maxHeartbeats 4000000
/-! A class by a local name. -/
namespace L4
open PySem PySem.Spec PyProof.Rows L2
section
variable {X : Cx} {σ : L2.St} {H : Hp} {μ : Nat → Addr} {ρ : Env} {F F1 : Hp} {G G1 G' : Cs} {e a b c o : Expr} {es : List Expr} {ma mb mc : Env → T Rv} {mas : Env → T (List Rv)} {pins : List (Addr × Obj)} {s : Shared} {τ : Tb} {q : Bool} {n : Nat} {pos p apos : Pos} {r : Except Err Rv} {R : VK} {x f : Str}
theorem clsOf_ok {h : Hd} {w : Rv} {r : Except Err Str} (hx : clsOf h w G = some (r, G')) : ∃ C, w = .d (.cl C) ∧ h.has (.k C) = true ∧ r = .ok C ∧ G' = G := by
  unfold clsOf at hx
  split at hx
  · rename_i C
    obtain ⟨c, hx⟩ := T.ask_ok hx
    cases hx
    exact ⟨C, rfl, c, rfl, rfl⟩
  · cases hx
/-- x(..), x a local name that holds an own class -/
theorem wx_mkv {i : Nat} (gd : Good τ q n X) (ha : WxA X es mas) (la : ∀ ρ, Lc (mas ρ)) (hN : X.N[i]? = some x) (hv : Vis X.env.scope x) (hp : Plain X pos es) (hdb : (x == ("__debug__" : Str)) = false) (hcd : (x == ("__classdict__" : Str)) = false) :
    Wx X (.Call (.Name x p) es [] pos) (fun ρ => T.bind (T.bind (getV ρ i) (clsOf (hd τ.pg q n))) fun C => T.bind (mas ρ) fun ws => (hd τ.pg q n).call (.k C) ws) := by
  refine ⟨fun pins s σ H R I ht => ?_⟩
  obtain ⟨μ, ρ, F, G, r, G', A, hx, fe, k⟩ := ht
  have hx : T.bind (T.bind (getV ρ i) (clsOf (hd τ.pg q n))) (fun C => T.bind (mas ρ) fun ws => (hd τ.pg q n).call (.k C) ws) G = some (r, G') := hx
  rw [T.bind_assoc] at hx
  refine wpAny_Call_Name_kw (thn ((wx_var (pos := p) hN hv hdb hcd).go (m := fun ρ => getV ρ i) I A (.getV ρ i) hx fe) fun u1 s1 ⟨v1, H1, I1, r1, w, G1, F1, h1, h2, h3, l1, h4, h5⟩ => ?_)
  rcases T.bind_ok h1 with ⟨er, h6, _⟩ | ⟨C, G2, h6, h7⟩
  · obtain ⟨_, _, _, z, _⟩ := clsOf_ok h6
    cases z
  · obtain ⟨C', rfl, hc, z, rfl⟩ := clsOf_ok h6
    cases z
    have ev : v1 = .ref (He.ga X.K C) := h5
    subst ev
    cases (show u1 = Value.ref (He.ga X.K C) from r1)
    obtain ⟨fd, hfd⟩ := Option.isSome_iff_exists.mp (show (τ.pg.fn (.k C)).isSome = true from hc)
    obtain ⟨hm, hk, M, _⟩ := gd.kn.k C fd hfd
    refine call_known (us0 := []) I1 hk hp (thn (ha.go pos I1 h3 (la ρ) h7 h4) fun us s2 ⟨vs, H2, ws, G3, F2, I2, rv, k1, k2, k3, kl, k4, k5, k6⟩ => ⟨I2.kIn, ?_⟩)
    exact run_mk gd k1 I2 k3.rep k6 rv ⟨k4, fun w e F' H' v e1 rp i => k w e F' H' (h2.trans (k2.trans e1)) rp v (toW i)⟩
end
end L4

set_option Elab.async false
set_option linter.all false
set_option maxRecDepth 100000
set_option maxHeartbeats 4000000
/-! f-strings (for the form of fst that asks the length; not yet in A2). -/
namespace L4
open PySem PySem.Spec PyProof.Rows L2
/-- the parts, each with the reading of its value -/
inductive Pj (X : Cx) : List Expr → List (Env → T Rv) → Prop where
  | nil : Pj X [] []
  | lit {s : Str} {j : Nat} {pos : Pos} {es ms} (r : Pj X es ms) : Pj X (.Constant (.str s) j pos :: es) ((fun _ => T.pure (.d (.str s))) :: ms)
  | val {e : Expr} {m : Env → T Rv} {pos : Pos} {es ms} (h : Wx X e m) (lm : ∀ ρ, Lc (m ρ)) (r : Pj X es ms) : Pj X (.FormattedValue e (-1) none pos :: es) (m :: ms)
def eJ : List (Env → T Rv) → Env → T (List D)
  | [], _ => T.pure []
  | m :: ms, ρ => T.bind (T.bind (m ρ) finD) fun u => T.bind (eJ ms ρ) fun us => T.pure (u :: us)
theorem str_app {a b : Str} : (a ++ b).length = a.length + b.length := by
  show (a.cps ++ b.cps).size = a.cps.size + b.cps.size
  rw [Array.size_append]
theorem str_assoc (a b c : Str) : (a ++ b) ++ c = a ++ (b ++ c) := by
  show (⟨(a.cps ++ b.cps) ++ c.cps⟩ : Str) = ⟨a.cps ++ (b.cps ++ c.cps)⟩
  rw [Array.append_assoc]
theorem str_nil (a : Str) : a ++ ("" : Str) = a := by
  show (⟨a.cps ++ (Str.ofString "").cps⟩ : Str) = a
  rw [show (Str.ofString "").cps = #[] from rfl, Array.append_empty]
theorem fstr_cons {u : D} {us : List D} {s : Str} (h : fstr (u :: us) = some s) : ∃ y r, fstr us = some r ∧ s = y ++ r ∧ (u = .str y ∨ ∃ i : Int, u = .int i ∧ i.natAbs.log2 < 1920 ∧ y = Str.ofString (toString i)) := by
  unfold fstr at h
  split at h
  · cases (by assumption : u :: us = [])
  · rename_i y r e
    cases e
    obtain ⟨z, h1, rfl⟩ := Option.map_eq_some_iff.mp h
    exact ⟨y, z, h1, rfl, .inl rfl⟩
  · rename_i i r e
    cases e
    obtain ⟨c, h⟩ := askO_ok h
    obtain ⟨z, h1, rfl⟩ := Option.map_eq_some_iff.mp h
    exact ⟨_, z, h1, rfl, .inr ⟨i, rfl, of_decide_eq_true c, rfl⟩⟩
  · cases h
theorem js_ok {X : Cx} {es : List Expr} {ms : List (Env → T Rv)} (pj : Pj X es ms) : ∃ ts, PJ X es ts ∧ ∀ (acc : Str) (σ : L2.St) (H : Hp) (μ : Nat → Addr) (ρ : Env) (F : Hp) (G G' : Cs) (us : List D) (s : Str) (Q : Str → Hp → Prop), At X σ H μ ρ F G → eJ ms ρ G = some (.ok us, G') → fstr us = some s → (acc ++ s).length ≤ line →
    (∀ F' H', Ex F F' → Rep X.K μ F' G' H' → Q (acc ++ s) H') → tJs ts acc σ H Q := by
  induction pj with
  | nil =>
    refine ⟨[], .nil, fun acc σ H μ ρ F G G' us s Q A hx hs hl k => ?_⟩
    cases hx
    cases hs
    have := k F H (Ex.refl F) A.rep
    rw [str_nil] at this
    exact this
  | @lit t j pos es ms r ih =>
    obtain ⟨ts, pj, h⟩ := ih
    refine ⟨tC (.str t) :: ts, .cons pe_str pj, fun acc σ H μ ρ F G G' us s Q A hx hs hl k => ?_⟩
    have hx : T.bind (eJ ms ρ) (fun us => T.pure (D.str t :: us)) G = some (.ok us, G') := hx
    rcases T.bind_ok hx with ⟨er, _, z⟩ | ⟨us', G2, h1, h2⟩
    · cases z
    · cases h2
      obtain ⟨y, r', h3, rfl, h4⟩ := fstr_cons hs
      have ey : y = t := by
        rcases h4 with h4 | ⟨i, h4, _⟩
        · cases h4; rfl
        · cases h4
      subst ey
      have la : (acc ++ y).length ≤ sizeLine := by
        rw [str_app] at hl ⊢
        rw [str_app] at hl
        rw [sizeLine_eq]
        have : line = 1000000 := rfl
        omega
      exact ⟨y, rfl, la, h (acc ++ y) σ H μ ρ F G G' us' r' Q A h1 h3 (by rw [str_assoc]; exact hl) (fun F' H' e rp => by rw [str_assoc]; exact k F' H' e rp)⟩
  | @val e m pos es ms he lm r ih =>
    obtain ⟨ts, pj, h⟩ := ih
    refine ⟨tFmt (tE X fun ρ => T.bind (m ρ) fin) :: ts, .cons (pe_fmt (he.frz lm)) pj, fun acc σ H μ ρ F G G' us s Q A hx hs hl k => ?_⟩
    have hx : T.bind (T.bind (m ρ) finD) (fun u => T.bind (eJ ms ρ) fun us => T.pure (u :: us)) G = some (.ok us, G') := hx
    refine tE_goD A lm he hx FinE.ok fun d G1 F1 H1 v h1 h2 h3 hl1 h4 iv => ?_
    rcases T.bind_ok h1 with ⟨er, _, z⟩ | ⟨us', G2, h5, h6⟩
    · cases z
    · cases h6
      obtain ⟨y, r', h7, rfl, h8⟩ := fstr_cons hs
      have bd : y.length ≤ sizeLine ∧ (acc ++ y).length ≤ sizeLine := by
        rw [str_app, str_app] at hl
        rw [str_app, sizeLine_eq]
        have : line = 1000000 := rfl
        omega
      have fin : tJs ts (acc ++ y) σ H1 Q := h (acc ++ y) σ H1 μ ρ F1 G1 G' us' r' Q h3 h5 h7 (by rw [str_assoc]; exact hl) (fun F' H' e rp => by rw [str_assoc]; exact k F' H' (h2.trans e) rp)
      rcases h8 with rfl | ⟨i, rfl, hi, rfl⟩
      · rw [show v = .str y from iv]
        exact .inl ⟨y, rfl, bd.1, y, rfl, bd.2, fin⟩
      · rw [show v = .int i from iv]
        exact .inr ⟨i, rfl, hi, _, rfl, bd.2, fin⟩
/-- f'..' of two parts or more -/
theorem wx_fst {X : Cx} {v1 v2 : Expr} {rest : List Expr} {ms : List (Env → T Rv)} {pos : Pos} (pj : Pj X (v1 :: v2 :: rest) ms) : Wx X (.JoinedStr (v1 :: v2 :: rest) pos) (fun ρ => T.bind (T.sure (eJ ms ρ)) fun us => liftO (fstrL us)) := by
  obtain ⟨ts, pj, h⟩ := js_ok pj
  refine ⟨fun pins s σ H R I ht => ?_⟩
  obtain ⟨μ, ρ, F, G, r, G', A, hx, fe, k⟩ := ht
  rcases T.bind_ok hx with ⟨er, h1, _⟩ | ⟨us, G1, h1, h2⟩
  · obtain ⟨w, z, _⟩ := sure_ok h1
    cases z
  · obtain ⟨us', z, h3⟩ := sure_ok h1
    cases z
    have h2 : T.bind (liftO (fstrL us)) T.pure G1 = some (r, G') := by rw [T.bind_pure]; exact h2
    obtain ⟨w, h4, h5⟩ := liftO_ok h2
    cases h5
    obtain ⟨t, h6, h7⟩ := Option.bind_eq_some_iff.mp h4
    obtain ⟨c, h8⟩ := askO_ok h7
    cases h8
    have he : (Str.empty ++ t) = t := by
      show (⟨#[] ++ t.cps⟩ : Str) = t
      rw [Array.empty_append]
    refine (pe_joined pj).run pins s σ H R I (h Str.empty σ H μ ρ F G G' us t _ A h3 h6 (by rw [he]; exact of_decide_eq_true c) fun F' H' e rp => ?_)
    rw [he]
    exact k _ rfl F' H' e rp _ rfl
end L4

set_option Elab.async false
set_option linter.all false
set_option maxRecDepth 100000
set_option maxHeartbeats 4000000
/-! The text is so: a check of a term of ours beside the model's. -/
namespace L4
open PySem PySem.Spec PyProof.Rows L2
structure Ck where
  τ : Tb
  N : List Str
  sc : Scope
  fn : Str → Bool
def Ck.blk (c : Ck) (scope : Scope) : Ck := { c with sc := relS scope c.sc, fn := fun x => scope.names.lookup x == some .cell }
/-- the place is as told -/
structure Cok (c : Ck) (q : Bool) (n : Nat) (X : Cx) : Prop where
  gd : Good c.τ q n X
  N : X.N = c.N
  sc : X.env.scope = c.sc
  fn : ∀ x, c.fn x = true → X.fn x = true
  calm : X.calm = true
def visB (c : Ck) (x : Str) : Bool := match c.sc.names.lookup x with
  | some .local => true
  | some .cell => true
  | some .free => true
  | _ => false
def locB (c : Ck) (x : Str) : Bool := match c.sc.names.lookup x with
  | some .local => true
  | some .cell => c.fn x
  | _ => false
def glB (c : Ck) (x : Str) : Bool := match c.sc.names.lookup x with
  | some .globalImplicit => !(x == ("__debug__" : Str))
  | _ => false
def nmB (c : Ck) (i : Nat) (x : Str) : Bool := decide (c.N[i]? = some x)
def abB (o : Expr) : Bool := match o with
  | .Call (.Name id _) [] [] _ => !(id == ("super" : Str))
  | _ => true
def noSt (e : Expr) : Bool := match e with
  | .Starred _ _ => false
  | _ => true
def noSl (e : Expr) : Bool := match e with
  | .Slice _ _ _ _ => false
  | _ => true
def noSet (e : Expr) : Bool := match e with
  | .Set _ _ _ => false
  | _ => true
def conB (d : D) (e : Expr) : Bool := match e with
  | .Constant k _ _ => match d, k with
    | .int i, .int j => decide (i = j)
    | .str s, .str t => decide (s = t)
    | .bool b, .bool b' => decide (b = b')
    | .non, .none => true
    | _, _ => false
  | _ => false
def gloB (c : Ck) (x : Str) (d : D) : Bool := match c.τ.gl x with
  | some d' => D.same d d'
  | none => false
def noIf : X → Bool
  | .ite _ _ _ => false
  | .nt a => noIf a
  | .and a b => noIf a && noIf b
  | .or a b => noIf a && noIf b
  | _ => true
def tgNames (c : Ck) : List Nat → List Expr → Bool
  | [], [] => true
  | i :: is, .Name x _ :: es => nmB c i x && (locB c x && tgNames c is es)
  | _, _ => false
def tgB (c : Ck) (t : Tg) (e : Expr) : Bool := match t, e with
  | .name i, .Name x _ => nmB c i x && locB c x
  | .tup is, .Tuple es _ _ => tgNames c is es
  | _, _ => false
def isTup (e : Expr) : Bool := match e with
  | .Tuple _ _ _ => true
  | _ => false
def ownOf (c : Ck) (vs : List Nat) : List (Str × Nat) := vs.map fun i => ((c.N[i]?).getD "", i)
def ixB (t : Tg) (vs : List Nat) : Bool := t.ix.all fun i => decide (i ∈ vs)
def blkB (c : Ck) (scope : Scope) (vs : List Nat) : Bool := blkC c.N c.sc scope (ownOf c vs)
def tyNames : List String := ["bool", "int", "str", "list", "tuple", "dict"]
def tyB (c : Ck) (t : Ty) (e : Expr) : Bool := match e with
  | .Name y _ => match t with
    | .bt x T => decide (y = x) && (glB c y && (c.τ.fr y && (decide (x = Str.ofString T) && decide (T ∈ tyNames))))
    | .cl C => decide (y = C) && (glB c y && (c.τ.pg.cls C && (c.τ.pg.fn (.k C)).isSome))
  | _ => false
def Xp.nil? : Xp → Bool
  | .nil => true
  | _ => false
def Cl.isOne : Cl → Bool
  | .one _ _ _ _ => true
  | _ => false
mutual
def chkX (c : Ck) : X → Expr → Bool
  | .con d, e => conB d e
  | .var i, e => match e with
    | .Name x _ => nmB c i x && (visB c x && (!(x == ("__debug__" : Str)) && !(x == ("__classdict__" : Str))))
    | _ => false
  | .glo y d, e => match e with
    | .Name x _ => decide (x = y) && (glB c x && gloB c x d)
    | _ => false
  | .bin o a b, e => match e with
    | .BinOp l o' r _ => decide (o = o') && (chkX c a l && chkX c b r)
    | _ => false
  | .neg a, e => match e with
    | .UnaryOp .USub x _ => chkX c a x
    | _ => false
  | .nt a, e => match e with
    | .UnaryOp .Not x _ => chkX c a x
    | _ => false
  | .and a b, e => match e with
    | .BoolOp .And [l, r] _ => chkX c a l && chkX c b r
    | .BoolOp .And (l :: r :: r2 :: rest) p => chkX c a l && chkX c b (.BoolOp .And (r :: r2 :: rest) p)
    | _ => false
  | .or a b, e => match e with
    | .BoolOp .Or [l, r] _ => chkX c a l && chkX c b r
    | .BoolOp .Or (l :: r :: r2 :: rest) p => chkX c a l && chkX c b (.BoolOp .Or (r :: r2 :: rest) p)
    | _ => false
  | .cmp o a b, e => match e with
    | .Compare l [o'] [r] _ => decide (o = o') && (noSet r && (chkX c a l && chkX c b r))
    | _ => false
  | .cmp2 o p a b d, e => match e with
    | .Compare l [o', p'] [r, r2] _ => decide (o = o') && (decide (p = p') && (noSet r2 && (chkX c a l && (chkX c b r && chkX c d r2))))
    | _ => false
  | .ite t a b, e => match e with
    | .IfExp t' l r _ => noIf t && (chkX c t t' && (chkX c a l && chkX c b r))
    | _ => false
  | .fn f as, e => match e with
    | .Call (.Name x _) es [] _ => decide (x = f) && (glB c x && ((c.τ.pg.fn (.g f)).isSome && chkXs c as es))
    | _ => false
  | .fnk _ _ _ _, _ => false
  | .mk f as, e => match e with
    | .Call (.Name x _) es [] _ => decide (x = f) && (glB c x && ((c.τ.pg.fn (.k f)).isSome && chkXs c as es))
    | _ => false
  | .mkv i as, e => match e with
    | .Call (.Name x _) es [] _ => nmB c i x && (visB c x && (!(x == ("__debug__" : Str)) && (!(x == ("__classdict__" : Str)) && chkXs c as es)))
    | _ => false
  | .blt f as, e => match e with
    | .Call (.Name x _) es [] _ => decide (x = f.name) && (glB c x && (c.τ.fr x && ((match f with | .repr => false | _ => true) && (as.ne && chkXs c as es))))
    | _ => false
  | .isi a t, e => match e with
    | .Call (.Name f _) [x, y] [] _ => decide (f = "isinstance") && (glB c f && (c.τ.fr f && (noSt x && (tyB c t y && chkX c a x))))
    | _ => false
  | .isi2 a t u, e => match e with
    | .Call (.Name f _) [x, .Tuple [y, z] _ _] [] _ => decide (f = "isinstance") && (glB c f && (c.τ.fr f && (noSt x && (tyB c t y && (tyB c u z && chkX c a x)))))
    | _ => false
  | .met o m as, e => match e with
    | .Call (.Attribute o' m' ap) es [] cp => decide (m = m') && (abB o' && ((ap.endLine == cp.line) && (decide (es.length < 30) && (chkX c o o' && chkXs c as es))))
    | _ => false
  | .att o f, e => match e with
    | .Attribute o' f' _ => decide (f = f') && (abB o' && (decide (f ∈ c.τ.fd) && chkX c o o'))
    | _ => false
  | .prp o f, e => match e with
    | .Attribute o' f' _ => decide (f = f') && (abB o' && chkX c o o')
    | _ => false
  | .ix o i, e => match e with
    | .Subscript o' i' _ => noSl i' && (chkX c o o' && chkX c i i')
    | _ => false
  | .slc o lo hi, e => match e with
    | .Subscript o' (.Slice lo' hi' none _) _ => chkX c o o' && (chkXo c lo lo' && chkXo c hi hi')
    | _ => false
  | .rev o, e => match e with
    | .Subscript o' (.Slice none none (some (.UnaryOp .USub (.Constant (.int 1) _ _) _)) _) _ => chkX c o o'
    | _ => false
  | .lst as, e => match e with
    | .List es _ => chkDs c as es
    | _ => false
  | .tup as, e => match e with
    | .Tuple es _ _ => chkDs c as es
    | _ => false
  | .dct ps, e => match e with
    | .Dict [] [] _ => ps.nil?
    | _ => false
  | .lc x cl, e => match e with
    | .ListComp elt gs scope _ => chkCl c cl gs scope && chkX (c.blk scope) x elt
    | _ => false
  | .dc y x cl, e => match e with
    | .DictComp k v gs scope _ => cl.isOne && (chkCl c cl gs scope && (chkX (c.blk scope) y k && chkX (c.blk scope) x v))
    | _ => false
  | .ls _ _, _ => false
  | .fst as, e => match e with
    | .JoinedStr (e1 :: e2 :: es) _ => chkJs c as (e1 :: e2 :: es)
    | _ => false
def chkXs (c : Ck) : Xs → List Expr → Bool
  | .nil, es => es.isEmpty
  | .cons a r, es => match es with
    | e :: es => noSt e && (chkX c a e && chkXs c r es)
    | [] => false
  | .star _ _, _ => false
def chkDs (c : Ck) : Xs → List Expr → Bool
  | .nil, es => es.isEmpty
  | .cons a r, es => match es with
    | e :: es => noSt e && (chkX c a e && chkDs c r es)
    | [] => false
  | .star a r, es => match es with
    | .Starred e _ :: es => chkX c a e && chkDs c r es
    | _ => false
def chkJs (c : Ck) : Xs → List Expr → Bool
  | .nil, es => es.isEmpty
  | .cons a r, es => match es with
    | .Constant (.str s) _ _ :: es => (match a with | .con (.str t) => decide (s = t) | _ => false) && chkJs c r es
    | .FormattedValue e (-1) none _ :: es => chkX c a e && chkJs c r es
    | _ => false
  | .star _ _, _ => false
def chkXo (c : Ck) : Xo → Option Expr → Bool
  | .no, e => e.isNone
  | .yes a, e => match e with
    | some e => chkX c a e
    | none => false
def chkIt (c : Ck) : It → Expr → Expr → Bool
  | .val x, tg, e => noSet e && chkX c x e
  | .rg1 a, tg, e => match e with
    | .Call (.Name y _) [x] [] _ => decide (y = "range") && (glB c y && (c.τ.fr y && (noSt x && chkX c a x)))
    | _ => false
  | .rg2 a b, tg, e => match e with
    | .Call (.Name y _) [x, z] [] _ => decide (y = "range") && (glB c y && (c.τ.fr y && (noSt x && (noSt z && (chkX c a x && chkX c b z)))))
    | _ => false
  | .rg3 _ _ _, _, _ => false
  | .enum a, tg, e => match e with
    | .Call (.Name y _) [x] [] _ => isTup tg && (decide (y = "enumerate") && (glB c y && (c.τ.fr y && (noSt x && chkX c a x))))
    | _ => false
  | .zip a b, tg, e => match e with
    | .Call (.Name y _) [x, z] [] _ => isTup tg && (decide (y = "zip") && (glB c y && (c.τ.fr y && (noSt x && (noSt z && (chkX c a x && chkX c b z))))))
    | _ => false
  | .items a, tg, e => match e with
    | .Call (.Attribute o m ap) [] [] cp => isTup tg && (decide (m = "items") && (abB o && ((ap.endLine == cp.line) && chkX c a o)))
    | _ => false
  | .vals a, tg, e => match e with
    | .Call (.Attribute o m ap) [] [] cp => decide (m = "values") && (abB o && ((ap.endLine == cp.line) && chkX c a o))
    | _ => false
def chkC (c : Ck) : Xo → List Expr → Bool
  | .no, es => es.isEmpty
  | .yes a, es => match es with
    | [e] => noIf a && chkX c a e
    | _ => false
def chkCl (c : Ck) : Cl → List Comprehension → Scope → Bool
  | .one vs t it co, gs, scope => match gs with
    | [⟨tg, iter, ifs, 0⟩] => blkB c scope vs && (ixB t vs && (noSet iter && (tgB (c.blk scope) t tg && (chkIt c it tg iter && chkC (c.blk scope) co ifs))))
    | _ => false
  | .two vs t it co vs1 t1 it1 co1, gs, scope => match gs with
    | [⟨tg, iter, ifs, 0⟩, ⟨tg1, iter1, ifs1, 0⟩] => blkB c scope vs && (ixB t vs && (noSet iter && (tgB (c.blk scope) t tg && (chkIt c it tg iter && (chkC (c.blk scope) co ifs &&
        ((vs1.all fun i => decide (i ∈ vs)) && (ixB t1 vs1 && (noSet iter1 && (tgB (c.blk scope) t1 tg1 && (chkIt (c.blk scope) it1 tg1 iter1 && chkC (c.blk scope) co1 ifs1)))))))))) 
    | _ => false
end
end L4

set_option Elab.async false
set_option linter.all false
set_option maxRecDepth 100000
set_option maxHeartbeats 4000000
/-! What is checked, is so: expressions. -/
namespace L4
open PySem PySem.Spec PyProof.Rows L2
section
variable {c : Ck} {q : Bool} {n : Nat} {X : Cx} {e o a b : Expr} {es : List Expr} {x m : Str} {pos cpos : Pos} {env : PySem.Env}
theorem noSt_ok (h : noSt e = true) : starEach (e :: es) env = (false, eval e env) :: starEach es env := by
  cases e <;> first | rfl | cases h
theorem noSts_ok : ∀ {es : List Expr}, (es.all noSt) = true → (backTo pos (starEach es env)).any (·.1) = false
  | [], _ => rfl
  | e :: es, h => by
    rw [List.all_cons, Bool.and_eq_true] at h
    rw [noSt_ok h.1]
    show (false || (backTo pos (starEach es env)).any (·.1)) = false
    rw [noSts_ok h.2]
    rfl
theorem plain_ok : ∀ {es : List Expr}, (es.all noSt) = true → Plain X pos es
  | [], _ => trivial
  | e :: es, h => by
    rw [List.all_cons, Bool.and_eq_true] at h
    exact ⟨noSt_ok h.1, noSts_ok h.2⟩
theorem ab_ok {w : Sem Value} (h : abB o = true) : attributeBase o m env w = w := by
  unfold attributeBase
  split
  · rename_i id _ _
    have : (id == ("super" : Str)) = false := by simpa [abB] using h
    have h2 : (id != ("super" : Str)) = true := by
      show (!(id == ("super" : Str))) = true
      rw [this]; rfl
    rw [h2]
    rfl
  · rfl
theorem noSet_ok {v : Value} (h : noSet e = true) : foldedSetIterable e env v = pure v := by
  unfold foldedSetIterable
  cases e <;> first | rfl | cases h
theorem noMark {op : CmpOp} (h : noSet e = true) : behindInMarks op e = false := by
  cases e <;> first | rfl | cases h
theorem noLast {o p : CmpOp} (h : noSet b = true) : lastMarks [o, p] [a, b] = false := noMark h
theorem noSl_ok (h : noSl e = true) : PlainIx e := by
  intro o i
  cases e <;> first | rfl | cases h
theorem few_ok (h : (es.all noSt) = true) (hl : es.length < 30) : ((backTo pos (starEach es env)).all (fun x => !x.1) && (backToKw pos (keywordEach [] env)).all (fun x => x.1.isSome)
    && decide (es.length + ([] : List Keyword).length + (if ([] : List Keyword).isEmpty then 0 else 1) < 30)) = true := by
  have h1 : (backTo pos (starEach es env)).all (fun x => !x.1) = true := by
    have := noSts_ok (pos := pos) (env := env) h
    rw [List.all_eq_not_any_not]
    simp only [Bool.not_not]
    rw [this]; rfl
  rw [h1]
  show (true && true && decide (es.length + 0 + 0 < 30)) = true
  simpa using hl
theorem vis_ok (C : Cok c q n X) (h : visB c x = true) : Vis X.env.scope x := by
  unfold visB at h
  rw [C.sc]
  split at h
  · rename_i e; exact .inl e
  · rename_i e; exact .inr (.inl e)
  · rename_i e; exact .inr (.inr e)
  · cases h
theorem loc_ok (C : Cok c q n X) (h : locB c x = true) : Loc X.env.scope x ∧ (X.fn x = true ∨ X.env.scope.names.lookup x = some .local) := by
  unfold locB at h
  rw [C.sc]
  split at h
  · rename_i e; exact ⟨.inl e, .inr e⟩
  · rename_i e; exact ⟨.inr e, .inl (C.fn x h)⟩
  · cases h
theorem gl_ok (C : Cok c q n X) (h : glB c x = true) : Gl X x ∧ (x == ("__debug__" : Str)) = false := by
  unfold glB at h
  split at h
  · rename_i e
    refine ⟨?_, by simpa using h⟩
    show X.env.scope.names.lookup x = _
    rw [C.sc]; exact e
  · cases h
theorem nm_ok (C : Cok c q n X) {i : Nat} (h : nmB c i x = true) : X.N[i]? = some x := by
  rw [C.N]; exact of_decide_eq_true h
theorem con_ok {d : D} (h : conB d e = true) : Wx X e (fun _ => T.pure (.d d)) := by
  unfold conB at h
  split at h
  · rename_i k kk pp
    split at h
    · cases of_decide_eq_true h; exact wx_con pe_int fun _ _ => rfl
    · cases of_decide_eq_true h; exact wx_con pe_str fun _ _ => rfl
    · cases of_decide_eq_true h; exact wx_con pe_bl fun _ _ => rfl
    · exact wx_con pe_non fun _ _ => rfl
    · cases h
  · cases h
theorem blk_ok {scope : Scope} (C : Cok c q n X) : InBlk X scope fun Y => Cok (c.blk scope) q n Y := fun s H C0 cl fp =>
  ⟨⟨C.gd.kn, C.gd.lv, C.gd.gd, C.gd.hr, C.gd.nd⟩, C.N, by
    show relS scope X.env.scope = relS scope c.sc
    rw [C.sc], fun x h => h, C.calm⟩
theorem tgNames_ok (C : Cok c q n X) : ∀ {is : List Nat} {es : List Expr}, tgNames c is es = true → PGs X es (gNames is) ∧ (assignEach es X.env).length = is.length ∧ (assignEach es X.env).findIdx? (·.1) = none
  | [], [], _ => ⟨pgs_nil, rfl, rfl⟩
  | i :: is, e :: es, h => by
    cases e with
    | Name x p =>
      have h : (nmB c i x && (locB c x && tgNames c is es)) = true := h
      obtain ⟨h1, h⟩ := Bool.and_eq_true_iff.mp h
      obtain ⟨h2, h3⟩ := Bool.and_eq_true_iff.mp h
      obtain ⟨l1, l2⟩ := loc_ok C h2
      obtain ⟨a1, a2, a3⟩ := tgNames_ok C h3
      refine ⟨pgs_cons (pg_name C.gd.nd (nm_ok C h1) l1 l2) a1 rfl, ?_, ?_⟩
      · show (assignEach es X.env).length + 1 = is.length + 1
        rw [a2]
      · show (List.findIdx? (·.1) ((false, _) :: assignEach es X.env)) = none
        rw [List.findIdx?_cons, a3]
        rfl
    | _ => cases h
  | [], _ :: _, h => by cases h
  | _ :: _, [], h => by cases h
theorem tg_ok (C : Cok c q n X) {t : Tg} (h : tgB c t e = true) : PG X e (gT X.K t) := by
  cases t with
  | name i =>
    cases e with
    | Name x p =>
      obtain ⟨h1, h2⟩ := Bool.and_eq_true_iff.mp (show (nmB c i x && locB c x) = true from h)
      obtain ⟨l1, l2⟩ := loc_ok C h2
      exact pg_name C.gd.nd (nm_ok C h1) l1 l2
    | _ => cases h
  | tup is =>
    cases e with
    | Tuple es k p =>
      obtain ⟨a1, a2, a3⟩ := tgNames_ok C (show tgNames c is es = true from h)
      exact pg_tup C.calm a1 a2 a3
    | _ => cases h
theorem own_ix (c : Ck) (vs : List Nat) : (ownOf c vs).map (·.2) = vs := by
  unfold ownOf
  rw [List.map_map]
  exact List.map_id' vs
theorem ix_ok {t : Tg} {vs : List Nat} (h : ixB t vs = true) : ∀ i ∈ t.ix, i ∈ vs := fun i hi => of_decide_eq_true (List.all_eq_true.mp h i hi)
theorem boot_tys : ∀ T ∈ tyNames, bootBuiltins (Str.ofString T) = some (.type T) ∧ Str.ofString T ≠ "__name__" ∧ T ∈ tags := by decide +kernel
theorem ty_ok (C : Cok c q n X) {t : Ty} (h : tyB c t e = true) : TyOk c.τ t ∧ PE X e (tC (t.v X.K)) ∧ noSt e = true := by
  unfold tyB at h
  split at h
  · split at h
    · obtain ⟨h1, h⟩ := Bool.and_eq_true_iff.mp h
      obtain ⟨h2, h⟩ := Bool.and_eq_true_iff.mp h
      obtain ⟨h3, h⟩ := Bool.and_eq_true_iff.mp h
      obtain ⟨h4, h5⟩ := Bool.and_eq_true_iff.mp h
      have e1 := of_decide_eq_true h1
      have e2 := of_decide_eq_true h4
      obtain ⟨b1, b2, b3⟩ := boot_tys _ (of_decide_eq_true h5)
      obtain ⟨g1, g2⟩ := gl_ok C h2
      subst e1
      rw [← e2] at b1 b2
      exact ⟨b3, pe_bltn g1 (C.gd.kn.fr _ h3) b1 rfl b2 g2, rfl⟩
    · obtain ⟨h1, h⟩ := Bool.and_eq_true_iff.mp h
      obtain ⟨h2, h⟩ := Bool.and_eq_true_iff.mp h
      obtain ⟨h3, h4⟩ := Bool.and_eq_true_iff.mp h
      have e1 := of_decide_eq_true h1
      obtain ⟨g1, g2⟩ := gl_ok C h2
      subst e1
      obtain ⟨fd, hfd⟩ := Option.isSome_iff_exists.mp h4
      exact ⟨h3, pe_glob g1 (C.gd.kn.k _ fd hfd).1 rfl g2, rfl⟩
  · cases h
end
end L4

set_option Elab.async false
set_option linter.all false
set_option maxRecDepth 100000
set_option maxHeartbeats 4000000
/-! What is checked, is so: expressions, the whole. -/
namespace L4
open PySem PySem.Spec PyProof.Rows L2
section
variable {c : Ck} {q : Bool} {n : Nat} {X : Cx}
theorem and2 {a b : Bool} (h : (a && b) = true) : a = true ∧ b = true := Bool.and_eq_true_iff.mp h
theorem xs_noSt : ∀ {as : Xs} {es : List Expr}, chkXs c as es = true → es.all noSt = true
  | .nil, es, h => by
    have : es = [] := List.isEmpty_iff.mp h
    rw [this]; rfl
  | .cons a r, es, h => by
    cases es with
    | nil => cases h
    | cons e es =>
      obtain ⟨h1, h2⟩ := and2 (show (noSt e && (chkX c a e && chkXs c r es)) = true from h)
      rw [List.all_cons, h1, xs_noSt (and2 h2).2]; rfl
  | .star _ _, _, h => by cases h
theorem xs_ds : ∀ {as : Xs} {es : List Expr}, chkXs c as es = true → chkDs c as es = true
  | .nil, es, h => h
  | .cons a r, es, h => by
    cases es with
    | nil => cases h
    | cons e es =>
      obtain ⟨h1, h2⟩ := and2 (show (noSt e && (chkX c a e && chkXs c r es)) = true from h)
      obtain ⟨h3, h4⟩ := and2 h2
      show (noSt e && (chkX c a e && chkDs c r es)) = true
      rw [h1, h3, xs_ds h4]; rfl
  | .star _ _, _, h => by cases h
theorem xs_ne {as : Xs} {es : List Expr} (h : chkXs c as es = true) (hn : as.ne = true) : es ≠ [] := by
  cases as with
  | nil => cases hn
  | cons a r => cases es with
    | nil => cases h
    | cons e es => exact fun z => by cases z
  | star a r => cases h
abbrev lX (q : Bool) (Γ : Pg) (n : Nat) (x : L4.X) (ρ : Env) : Lc (eX q (hd Γ q n) x ρ) := lcX (lc_call Γ q n) x ρ
theorem wx_glo {e : Expr} {d : D} {v : V} (h : PE X e (tC v)) (hd : ∀ F, Is X.K F d v) : Wx X e (fun _ => T.pure (.d d)) :=
  wx_of h fun σ H μ ρ F G r G' R A hx k => by
    cases hx
    exact k _ rfl v rfl (hd _)
/-- tests whose whole is not looked at -/
def irr : Expr → Bool
  | .UnaryOp .Not _ _ => true
  | .BoolOp _ _ _ => true
  | .Compare _ _ _ _ => true
  | _ => false
/-- the shape of an expression -/
def shp : L4.X → Expr → Bool
  | .var _, .Name _ _ => true
  | .glo _ _, .Name _ _ => true
  | .bin _ _ _, .BinOp _ _ _ _ => true
  | .fn _ _, .Call _ _ _ _ => true
  | .mk _ _, .Call _ _ _ _ => true
  | .mkv _ _, .Call _ _ _ _ => true
  | .blt _ _, .Call _ _ _ _ => true
  | .met _ _ _, .Call _ _ _ _ => true
  | .att _ _, .Attribute _ _ _ => true
  | .prp _ _, .Attribute _ _ _ => true
  | .ix _ _, .Subscript _ _ _ => true
  | .slc _ _ _, .Subscript _ _ _ => true
  | .rev _, .Subscript _ _ _ => true
  | .lst _, .List _ _ => true
  | .tup _, .Tuple _ _ _ => true
  | .lc _ _, .ListComp _ _ _ _ => true
  | .dc _ _ _, .DictComp _ _ _ _ _ => true
  | .isi _ _, .Call _ _ _ _ => true
  | .dct _, .Dict _ _ _ => true
  | .fst _, .JoinedStr _ _ => true
  | .isi2 _ _ _, .Call _ _ _ _ => true
  | .nt _, _ => true
  | .and _ _, _ => true
  | .or _ _, _ => true
  | .cmp _ _ _, _ => true
  | .cmp2 _ _ _ _ _, _ => true
  | .con _, _ => true
  | .neg _, _ => true
  | .ite _ _ _, _ => true
  | _, _ => false
theorem shp_of {x : L4.X} {e : Expr} (h : chkX c x e = true) : shp x e = true := by
  cases x <;> first | rfl | (cases e <;> first | rfl | (cases h; done) | (unfold chkX at h; cases h; done)) | (cases h; done)
/-- what a reading of a test asks -/
theorem wt_of {x : L4.X} {e : Expr} (h : Wx X e fun ρ => eX q (hd c.τ.pg q n) x ρ) (he : ∀ whole, isTrue e X.env whole = (do let v ← whole; standAt e.pos; holding [v] (truthy v))) (w : Sem Value) (hw : w = eval e X.env) : Wt X e (fun ρ => T.bind (eX q (hd c.τ.pg q n) x ρ) asB) w := by
  subst hw
  exact h.wt (fun ρ => lX q c.τ.pg n x ρ) he
def msOf (q : Bool) (h : Hd) : Xs → List (Env → T Rv)
  | .nil => []
  | .cons a r => (fun ρ => eX q h a ρ) :: msOf q h r
  | .star _ r => (fun _ => T.stuck) :: msOf q h r
mutual
theorem okX : ∀ (x : L4.X) (e : Expr) {c : Ck} {X : Cx}, chkX c x e = true → Cok c q n X → Wx X e fun ρ => eX q (hd c.τ.pg q n) x ρ
  | .con d, e, c, X, h, C => con_ok h
  | .var i, e, c, X, h, C => by
    unfold chkX at h
    split at h
    · obtain ⟨h1, h⟩ := and2 h
      obtain ⟨h2, h⟩ := and2 h
      obtain ⟨h3, h4⟩ := and2 h
      exact wx_var (nm_ok C h1) (vis_ok C h2) (by simpa using h3) (by simpa using h4)
    · cases h
  | .glo y d, e, c, X, h, C => by
    unfold chkX at h
    split at h
    · obtain ⟨h1, h⟩ := and2 h
      obtain ⟨h2, h3⟩ := and2 h
      obtain ⟨g1, g2⟩ := gl_ok C h2
      unfold gloB at h3
      split at h3
      · rename_i d' hd'
        have := D.same_eq h3
        subst this
        obtain ⟨u, v, m1, m2, m3⟩ := C.gd.kn.gl _ _ hd'
        exact wx_glo (pe_glob g1 m1 m2 g2) m3
      · cases h3
    · cases h
  | .bin o a b, e, c, X, h, C => by
    unfold chkX at h
    split at h
    · obtain ⟨h1, h⟩ := and2 h
      obtain ⟨h2, h3⟩ := and2 h
      cases of_decide_eq_true h1
      exact wx_bin C.gd (okX a _ h2 C) (okX b _ h3 C) (fun ρ => lX q c.τ.pg n a ρ) fun ρ => lX q c.τ.pg n b ρ
    · cases h
  | .neg a, e, c, X, h, C => by
    unfold chkX at h
    split at h
    · exact wx_neg C.gd (okX a _ h C) fun ρ => lX q c.τ.pg n a ρ
    · cases h
  | .nt a, e, c, X, h, C => by
    unfold chkX at h
    split at h
    · exact wx_not (okX a _ h C) fun ρ => lX q c.τ.pg n a ρ
    · cases h
  | .and a b, e, c, X, h, C => by
    unfold chkX at h
    split at h
    · obtain ⟨h1, h2⟩ := and2 h
      exact wx_and (okX a _ h1 C) (wx_one (okX b _ h2 C)) fun ρ => lX q c.τ.pg n a ρ
    · obtain ⟨h1, h2⟩ := and2 h
      exact wx_and (okX a _ h1 C) (okX b _ h2 C) fun ρ => lX q c.τ.pg n a ρ
    · cases h
  | .or a b, e, c, X, h, C => by
    unfold chkX at h
    split at h
    · obtain ⟨h1, h2⟩ := and2 h
      exact wx_or (okX a _ h1 C) (wx_one (okX b _ h2 C)) fun ρ => lX q c.τ.pg n a ρ
    · obtain ⟨h1, h2⟩ := and2 h
      exact wx_or (okX a _ h1 C) (okX b _ h2 C) fun ρ => lX q c.τ.pg n a ρ
    · cases h
  | .cmp o a b, e, c, X, h, C => by
    unfold chkX at h
    split at h
    · obtain ⟨h1, h⟩ := and2 h
      obtain ⟨h2, h⟩ := and2 h
      obtain ⟨h3, h4⟩ := and2 h
      cases of_decide_eq_true h1
      exact wx_cmp C.gd (okX a _ h3 C) (okX b _ h4 C) (fun ρ => lX q c.τ.pg n a ρ) (fun ρ => lX q c.τ.pg n b ρ) (noMark h2)
    · cases h
  | .cmp2 o p a b d, e, c, X, h, C => by
    unfold chkX at h
    split at h
    · obtain ⟨h1, h⟩ := and2 h
      obtain ⟨h2, h⟩ := and2 h
      obtain ⟨h3, h⟩ := and2 h
      obtain ⟨h4, h⟩ := and2 h
      obtain ⟨h5, h6⟩ := and2 h
      cases of_decide_eq_true h1
      cases of_decide_eq_true h2
      exact wx_cmp2 (okX a _ h4 C) (okX b _ h5 C) (okX d _ h6 C) (fun ρ => lX q c.τ.pg n a ρ) (fun ρ => lX q c.τ.pg n b ρ) (fun ρ => lX q c.τ.pg n d ρ) (noLast h3)
    · cases h
  | .ite t a b, e, c, X, h, C => by
    unfold chkX at h
    split at h
    · obtain ⟨h1, h⟩ := and2 h
      obtain ⟨h2, h⟩ := and2 h
      obtain ⟨h3, h4⟩ := and2 h
      exact wx_ite (okT t _ h2 h1 C _ (.inl rfl)) (okX a _ h3 C) (okX b _ h4 C) fun ρ => lX q c.τ.pg n t ρ
    · cases h
  | .fn f as, e, c, X, h, C => by
    unfold chkX at h
    split at h
    · obtain ⟨h1, h⟩ := and2 h
      obtain ⟨h2, h⟩ := and2 h
      obtain ⟨h3, h4⟩ := and2 h
      cases of_decide_eq_true h1
      obtain ⟨g1, g2⟩ := gl_ok C h2
      exact wx_fn C.gd (okXs as _ h4 C) (fun ρ => lcXs (lc_call _ q n) as ρ) g1 (plain_ok (xs_noSt h4)) g2 h3
    · cases h
  | .fnk _ _ _ _, e, c, X, h, C => by cases h
  | .mk f as, e, c, X, h, C => by
    unfold chkX at h
    split at h
    · obtain ⟨h1, h⟩ := and2 h
      obtain ⟨h2, h⟩ := and2 h
      obtain ⟨h3, h4⟩ := and2 h
      cases of_decide_eq_true h1
      obtain ⟨g1, g2⟩ := gl_ok C h2
      exact wx_mk C.gd (okXs as _ h4 C) (fun ρ => lcXs (lc_call _ q n) as ρ) g1 (plain_ok (xs_noSt h4)) g2 h3
    · cases h
  | .mkv i as, e, c, X, h, C => by
    unfold chkX at h
    split at h
    · obtain ⟨h1, h⟩ := and2 h
      obtain ⟨h2, h⟩ := and2 h
      obtain ⟨h3, h⟩ := and2 h
      obtain ⟨h4, h5⟩ := and2 h
      exact wx_mkv C.gd (okXs as _ h5 C) (fun ρ => lcXs (lc_call _ q n) as ρ) (nm_ok C h1) (vis_ok C h2) (plain_ok (xs_noSt h5)) (by simpa using h3) (by simpa using h4)
    · cases h
  | .blt f as, e, c, X, h, C => by
    unfold chkX at h
    split at h
    · obtain ⟨h1, h⟩ := and2 h
      obtain ⟨h2, h⟩ := and2 h
      obtain ⟨h3, h⟩ := and2 h
      obtain ⟨h4, h⟩ := and2 h
      obtain ⟨h5, h6⟩ := and2 h
      have e1 := of_decide_eq_true h1
      obtain ⟨g1, g2⟩ := gl_ok C h2
      have hne := xs_ne h6 h5
      have hst := xs_noSt h6
      obtain ⟨e0, es', rfl⟩ := List.exists_cons_of_ne_nil hne
      rw [List.all_cons, Bool.and_eq_true] at hst
      subst e1
      refine wx_blt (q := q) ?_ C.calm (okXs as _ h6 C) (fun ρ => lcXs (lc_call _ q n) as ρ) g1 (C.gd.kn.fr _ h3) (noSt_ok hst.1) (noSts_ok hst.2)
      rintro rfl
      cases h4
    · cases h
  | .isi a t, e, c, X, h, C => by
    unfold chkX at h
    split at h
    · obtain ⟨h1, h⟩ := and2 h
      obtain ⟨h2, h⟩ := and2 h
      obtain ⟨h3, h⟩ := and2 h
      obtain ⟨h4, h⟩ := and2 h
      obtain ⟨h5, h6⟩ := and2 h
      cases of_decide_eq_true h1
      obtain ⟨t1, t2, t3⟩ := ty_ok C h5
      exact wx_isi C.gd t1 (okX a _ h6 C) (fun ρ => lX q c.τ.pg n a ρ) t2 (gl_ok C h2).1 (C.gd.kn.fr _ h3) (noSt_ok h4) (noSt_ok t3) (by rw [noSt_ok t3]; rfl)
    · cases h
  | .isi2 a t u, e, c, X, h, C => by
    unfold chkX at h
    split at h
    · obtain ⟨h1, h⟩ := and2 h
      obtain ⟨h2, h⟩ := and2 h
      obtain ⟨h3, h⟩ := and2 h
      obtain ⟨h4, h⟩ := and2 h
      obtain ⟨h5, h⟩ := and2 h
      obtain ⟨h6, h7⟩ := and2 h
      cases of_decide_eq_true h1
      obtain ⟨t1, t2, t3⟩ := ty_ok C h5
      obtain ⟨u1, u2, u3⟩ := ty_ok C h6
      exact wx_isi2 C.gd t1 u1 (okX a _ h7 C) (fun ρ => lX q c.τ.pg n a ρ) t2 u2 (gl_ok C h2).1 (C.gd.kn.fr _ h3) (noSt_ok h4) (noSt_ok t3) (noSt_ok u3)
    · cases h
  | .met o m as, e, c, X, h, C => by
    unfold chkX at h
    split at h
    · obtain ⟨h1, h⟩ := and2 h
      obtain ⟨h2, h⟩ := and2 h
      obtain ⟨h3, h⟩ := and2 h
      obtain ⟨h4, h⟩ := and2 h
      obtain ⟨h5, h6⟩ := and2 h
      cases of_decide_eq_true h1
      have hst := xs_noSt h6
      exact wx_met C.gd (okX o _ h5 C) (fun ρ => lX q c.τ.pg n o ρ) (okXs as _ h6 C) (fun ρ => lcXs (lc_call _ q n) as ρ) ⟨ab_ok h2, few_ok hst (of_decide_eq_true h4), h3, plain_ok hst⟩ (xs_ne h6)
    · cases h
  | .att o f, e, c, X, h, C => by
    unfold chkX at h
    split at h
    · obtain ⟨h1, h⟩ := and2 h
      obtain ⟨h2, h⟩ := and2 h
      obtain ⟨h3, h4⟩ := and2 h
      cases of_decide_eq_true h1
      exact wx_att C.gd (okX o _ h4 C) (fun ρ => lX q c.τ.pg n o ρ) (of_decide_eq_true h3) (ab_ok h2)
    · cases h
  | .prp o f, e, c, X, h, C => by
    unfold chkX at h
    split at h
    · obtain ⟨h1, h⟩ := and2 h
      obtain ⟨h2, h4⟩ := and2 h
      cases of_decide_eq_true h1
      exact wx_prp C.gd (okX o _ h4 C) (fun ρ => lX q c.τ.pg n o ρ) (ab_ok h2)
    · cases h
  | .ix o i, e, c, X, h, C => by
    unfold chkX at h
    split at h
    · obtain ⟨h1, h⟩ := and2 h
      obtain ⟨h2, h3⟩ := and2 h
      exact wx_ix C.gd (okX o _ h2 C) (okX i _ h3 C) (fun ρ => lX q c.τ.pg n o ρ) (fun ρ => lX q c.τ.pg n i ρ) (noSl_ok h1)
    · cases h
  | .slc o lo hi, e, c, X, h, C => by
    unfold chkX at h
    split at h
    · obtain ⟨h1, h⟩ := and2 h
      obtain ⟨h2, h3⟩ := and2 h
      exact wx_slc (okX o _ h1 C) (okXo lo _ h2 C) (okXo hi _ h3 C) (fun ρ => lX q c.τ.pg n o ρ) (fun ρ => lcXo (lc_call _ q n) lo ρ) (fun ρ => lcXo (lc_call _ q n) hi ρ)
    · cases h
  | .rev o, e, c, X, h, C => by
    unfold chkX at h
    split at h
    · exact wx_rev (okX o _ h C) (fun ρ => lX q c.τ.pg n o ρ)
    · cases h
  | .lst as, e, c, X, h, C => by
    unfold chkX at h
    split at h
    · exact wx_lst (okDs as _ h C) (fun ρ => lcDs (lc_call _ q n) as ρ)
    · cases h
  | .tup as, e, c, X, h, C => by
    unfold chkX at h
    split at h
    · exact wx_tup (okDs as _ h C) (fun ρ => lcDs (lc_call _ q n) as ρ)
    · cases h
  | .dct ps, e, c, X, h, C => by
    unfold chkX at h
    split at h
    · cases ps with
      | nil => exact wx_dct0
      | _ => cases h
    · cases h
  | .lc x cl, e, c, X, h, C => by
    unfold chkX at h
    split at h
    · rename_i elt gs scope pp
      obtain ⟨h1, h2⟩ := and2 h
      have he : InBlk X scope fun Y => Wx Y elt fun ρ => eX q (hd c.τ.pg q n) x ρ := fun s H C0 cl0 fp => okX (c := c.blk scope) x _ h2 (blk_ok C s H C0 cl0 fp)
      cases cl with
      | one vs t it co =>
        unfold chkCl at h1
        split at h1
        · obtain ⟨k1, h1⟩ := and2 h1
          obtain ⟨k2, h1⟩ := and2 h1
          obtain ⟨k3, h1⟩ := and2 h1
          obtain ⟨k4, h1⟩ := and2 h1
          obtain ⟨k5, k6⟩ := and2 h1
          have := wx_lc (own := ownOf c vs) (t := t) (pos := pp) C.calm C.gd.nd (okIt it _ _ k5 C) (fun ρ => lcIt (lc_call _ q n) it ρ) (by rw [C.N, C.sc]; exact blkOk_by k1) (by rw [own_ix]; exact ix_ok k2) (fun s H C0 cl0 fp => tg_ok (blk_ok C s H C0 cl0 fp) k4)
            (fun s H C0 cl0 fp => okC (c := c.blk scope) co _ k6 (blk_ok C s H C0 cl0 fp)) (fun ρ => lcXt (lc_call _ q n) co ρ) he (fun ρ => lX q c.τ.pg n x ρ) (fun v => noSet_ok k3)
          rw [own_ix] at this
          exact this
        · cases h1
      | two vs t it co vs1 t1 it1 co1 =>
        unfold chkCl at h1
        split at h1
        · obtain ⟨k1, h1⟩ := and2 h1
          obtain ⟨k2, h1⟩ := and2 h1
          obtain ⟨k3, h1⟩ := and2 h1
          obtain ⟨k4, h1⟩ := and2 h1
          obtain ⟨k5, h1⟩ := and2 h1
          obtain ⟨k6, h1⟩ := and2 h1
          obtain ⟨k7, h1⟩ := and2 h1
          obtain ⟨k8, h1⟩ := and2 h1
          obtain ⟨k9, h1⟩ := and2 h1
          obtain ⟨k10, h1⟩ := and2 h1
          obtain ⟨k11, k12⟩ := and2 h1
          have := wx_lc2 (own := ownOf c vs) (t := t) (t1 := t1) (vs1 := vs1) (pos := pp) C.calm C.gd.nd (okIt it _ _ k5 C) (fun ρ => lcIt (lc_call _ q n) it ρ) (by rw [C.N, C.sc]; exact blkOk_by k1) (by rw [own_ix]; exact ix_ok k2) (fun s H C0 cl0 fp => tg_ok (blk_ok C s H C0 cl0 fp) k4)
            (fun s H C0 cl0 fp => okC (c := c.blk scope) co _ k6 (blk_ok C s H C0 cl0 fp)) (fun ρ => lcXt (lc_call _ q n) co ρ) (fun s H C0 cl0 fp => okIt (c := c.blk scope) it1 _ _ k11 (blk_ok C s H C0 cl0 fp)) (fun ρ => lcIt (lc_call _ q n) it1 ρ) (ix_ok k8)
            (by rw [own_ix]; exact fun i hi => of_decide_eq_true (List.all_eq_true.mp k7 i hi)) (fun s H C0 cl0 fp => tg_ok (blk_ok C s H C0 cl0 fp) k10) (fun s H C0 cl0 fp => okC (c := c.blk scope) co1 _ k12 (blk_ok C s H C0 cl0 fp)) (fun ρ => lcXt (lc_call _ q n) co1 ρ)
            he (fun ρ => lX q c.τ.pg n x ρ) (fun v => noSet_ok k3) (fun env v => noSet_ok k9)
          rw [own_ix] at this
          exact this
        · cases h1
    · cases h
  | .dc y x cl, e, c, X, h, C => by
    unfold chkX at h
    split at h
    · rename_i k v gs scope pp
      obtain ⟨h0, h⟩ := and2 h
      obtain ⟨h1, h⟩ := and2 h
      obtain ⟨h2, h3⟩ := and2 h
      have hk : InBlk X scope fun Y => Wx Y k fun ρ => eX q (hd c.τ.pg q n) y ρ := fun s H C0 cl0 fp => okX (c := c.blk scope) y _ h2 (blk_ok C s H C0 cl0 fp)
      have he : InBlk X scope fun Y => Wx Y v fun ρ => eX q (hd c.τ.pg q n) x ρ := fun s H C0 cl0 fp => okX (c := c.blk scope) x _ h3 (blk_ok C s H C0 cl0 fp)
      cases cl with
      | one vs t it co =>
        unfold chkCl at h1
        split at h1
        · obtain ⟨k1, h1⟩ := and2 h1
          obtain ⟨k2, h1⟩ := and2 h1
          obtain ⟨k3, h1⟩ := and2 h1
          obtain ⟨k4, h1⟩ := and2 h1
          obtain ⟨k5, k6⟩ := and2 h1
          have := wx_dc (own := ownOf c vs) (t := t) (pos := pp) C.calm C.gd.nd (okIt it _ _ k5 C) (fun ρ => lcIt (lc_call _ q n) it ρ) (by rw [C.N, C.sc]; exact blkOk_by k1) (by rw [own_ix]; exact ix_ok k2) (fun s H C0 cl0 fp => tg_ok (blk_ok C s H C0 cl0 fp) k4)
            (fun s H C0 cl0 fp => okC (c := c.blk scope) co _ k6 (blk_ok C s H C0 cl0 fp)) (fun ρ => lcXt (lc_call _ q n) co ρ) hk (fun ρ => lX q c.τ.pg n y ρ) he (fun ρ => lX q c.τ.pg n x ρ) (fun v => noSet_ok k3)
          rw [own_ix] at this
          exact this
        · cases h1
      | two vs t it co vs1 t1 it1 co1 => cases h0
    · cases h
  | .ls _ _, e, c, X, h, C => by cases h
  | .fst as, e, c, X, h, C => by
    unfold chkX at h
    split at h
    · obtain ⟨pj, ej⟩ := okJs as _ h C
      have z := wx_fst (X := X) (pos := by assumption) pj
      have e1 : (fun ρ => T.bind (T.sure (eJ (msOf q (hd c.τ.pg q n) as) ρ)) fun us => liftO (fstrL us)) = fun ρ => eX q (hd c.τ.pg q n) (.fst as) ρ := by
        funext ρ
        rw [ej ρ]
        rfl
      rw [e1] at z
      exact z
    · cases h
theorem okT : ∀ (x : L4.X) (e : Expr) {c : Ck} {X : Cx}, chkX c x e = true → noIf x = true → Cok c q n X → ∀ w, (w = eval e X.env ∨ irr e = true) → Wt X e (fun ρ => T.bind (eX q (hd c.τ.pg q n) x ρ) asB) w
  | .nt a, e, c, X, h, hn, C, w, hw => by
    unfold chkX at h
    split at h
    · exact wt_not (okT a _ h hn C _ (.inl rfl)) fun ρ => lX q c.τ.pg n a ρ
    · cases h
  | .and a b, e, c, X, h, hn, C, w, hw => by
    obtain ⟨n1, n2⟩ := and2 hn
    unfold chkX at h
    split at h
    · obtain ⟨h1, h2⟩ := and2 h
      exact wt_and (okT a _ h1 n1 C _ (.inl rfl)) (fun w => wt_and1 (okT b _ h2 n2 C _ (.inl rfl)) fun ρ => lX q c.τ.pg n b ρ) fun ρ => lX q c.τ.pg n a ρ
    · obtain ⟨h1, h2⟩ := and2 h
      exact wt_and (okT a _ h1 n1 C _ (.inl rfl)) (fun w => okT b _ h2 n2 C w (.inr rfl)) fun ρ => lX q c.τ.pg n a ρ
    · cases h
  | .or a b, e, c, X, h, hn, C, w, hw => by
    obtain ⟨n1, n2⟩ := and2 hn
    unfold chkX at h
    split at h
    · obtain ⟨h1, h2⟩ := and2 h
      exact wt_or (okT a _ h1 n1 C _ (.inl rfl)) (fun w => wt_or1 (okT b _ h2 n2 C _ (.inl rfl)) fun ρ => lX q c.τ.pg n b ρ) fun ρ => lX q c.τ.pg n a ρ
    · obtain ⟨h1, h2⟩ := and2 h
      exact wt_or (okT a _ h1 n1 C _ (.inl rfl)) (fun w => okT b _ h2 n2 C w (.inr rfl)) fun ρ => lX q c.τ.pg n a ρ
    · cases h
  | .cmp o a b, e, c, X, h, hn, C, w, hw => by
    unfold chkX at h
    split at h
    · obtain ⟨h1, h⟩ := and2 h
      obtain ⟨h2, h⟩ := and2 h
      obtain ⟨h3, h4⟩ := and2 h
      cases of_decide_eq_true h1
      exact wt_cmp C.gd (okX a _ h3 C) (okX b _ h4 C) (fun ρ => lX q c.τ.pg n a ρ) (fun ρ => lX q c.τ.pg n b ρ) (noMark h2)
    · cases h
  | .cmp2 o p a b d, e, c, X, h, hn, C, w, hw => by
    unfold chkX at h
    split at h
    · obtain ⟨h1, h⟩ := and2 h
      obtain ⟨h2, h⟩ := and2 h
      obtain ⟨h3, h⟩ := and2 h
      obtain ⟨h4, h⟩ := and2 h
      obtain ⟨h5, h6⟩ := and2 h
      cases of_decide_eq_true h1
      cases of_decide_eq_true h2
      have z := wt_cmp2 (X := X) (o := o) (p := p) (pos := by assumption) (okX a _ h4 C) (okX b _ h5 C) (okX d _ h6 C) (fun ρ => lX q c.τ.pg n a ρ) (fun ρ => lX q c.τ.pg n b ρ) (fun ρ => lX q c.τ.pg n d ρ) (noLast h3)
      exact ⟨fun pins s σ H R I ht => z.run pins s σ H R I ht⟩
    · cases h
  | .con d, e, c, X, h, hn, C, w, hw => by
    have hx := okX (.con d) e h C
    cases e with
    | Constant k kk pp => exact wt_of hx (fun _ => rfl) w (hw.resolve_right (by intro z; cases z))
    | _ => cases h
  | .ite _ _ _, _, _, _, _, hn, _, _, _ => by cases hn
  | .var i, e, c, X, h, hn, C, w, hw => by
    have hx := okX (.var i) e h C
    have hs : shp (.var i) e = true := shp_of h
    have h' : irr e = false := by cases e <;> first | rfl | cases hs
    exact wt_of hx (fun _ => by cases e <;> first | rfl | cases hs) w (hw.resolve_right (by rw [h']; exact Bool.false_ne_true))
  | .glo y d, e, c, X, h, hn, C, w, hw => by
    have hx := okX (.glo y d) e h C
    have hs : shp (.glo y d) e = true := shp_of h
    have h' : irr e = false := by cases e <;> first | rfl | cases hs
    exact wt_of hx (fun _ => by cases e <;> first | rfl | cases hs) w (hw.resolve_right (by rw [h']; exact Bool.false_ne_true))
  | .bin o a b, e, c, X, h, hn, C, w, hw => by
    have hx := okX (.bin o a b) e h C
    have hs : shp (.bin o a b) e = true := shp_of h
    have h' : irr e = false := by cases e <;> first | rfl | cases hs
    exact wt_of hx (fun _ => by cases e <;> first | rfl | cases hs) w (hw.resolve_right (by rw [h']; exact Bool.false_ne_true))
  | .fn f as, e, c, X, h, hn, C, w, hw => by
    have hx := okX (.fn f as) e h C
    have hs : shp (.fn f as) e = true := shp_of h
    have h' : irr e = false := by cases e <;> first | rfl | cases hs
    exact wt_of hx (fun _ => by cases e <;> first | rfl | cases hs) w (hw.resolve_right (by rw [h']; exact Bool.false_ne_true))
  | .mk f as, e, c, X, h, hn, C, w, hw => by
    have hx := okX (.mk f as) e h C
    have hs : shp (.mk f as) e = true := shp_of h
    have h' : irr e = false := by cases e <;> first | rfl | cases hs
    exact wt_of hx (fun _ => by cases e <;> first | rfl | cases hs) w (hw.resolve_right (by rw [h']; exact Bool.false_ne_true))
  | .mkv i as, e, c, X, h, hn, C, w, hw => by
    have hx := okX (.mkv i as) e h C
    have hs : shp (.mkv i as) e = true := shp_of h
    have h' : irr e = false := by cases e <;> first | rfl | cases hs
    exact wt_of hx (fun _ => by cases e <;> first | rfl | cases hs) w (hw.resolve_right (by rw [h']; exact Bool.false_ne_true))
  | .blt f as, e, c, X, h, hn, C, w, hw => by
    have hx := okX (.blt f as) e h C
    have hs : shp (.blt f as) e = true := shp_of h
    have h' : irr e = false := by cases e <;> first | rfl | cases hs
    exact wt_of hx (fun _ => by cases e <;> first | rfl | cases hs) w (hw.resolve_right (by rw [h']; exact Bool.false_ne_true))
  | .met o m as, e, c, X, h, hn, C, w, hw => by
    have hx := okX (.met o m as) e h C
    have hs : shp (.met o m as) e = true := shp_of h
    have h' : irr e = false := by cases e <;> first | rfl | cases hs
    exact wt_of hx (fun _ => by cases e <;> first | rfl | cases hs) w (hw.resolve_right (by rw [h']; exact Bool.false_ne_true))
  | .att o f, e, c, X, h, hn, C, w, hw => by
    have hx := okX (.att o f) e h C
    have hs : shp (.att o f) e = true := shp_of h
    have h' : irr e = false := by cases e <;> first | rfl | cases hs
    exact wt_of hx (fun _ => by cases e <;> first | rfl | cases hs) w (hw.resolve_right (by rw [h']; exact Bool.false_ne_true))
  | .prp o f, e, c, X, h, hn, C, w, hw => by
    have hx := okX (.prp o f) e h C
    have hs : shp (.prp o f) e = true := shp_of h
    have h' : irr e = false := by cases e <;> first | rfl | cases hs
    exact wt_of hx (fun _ => by cases e <;> first | rfl | cases hs) w (hw.resolve_right (by rw [h']; exact Bool.false_ne_true))
  | .ix o i, e, c, X, h, hn, C, w, hw => by
    have hx := okX (.ix o i) e h C
    have hs : shp (.ix o i) e = true := shp_of h
    have h' : irr e = false := by cases e <;> first | rfl | cases hs
    exact wt_of hx (fun _ => by cases e <;> first | rfl | cases hs) w (hw.resolve_right (by rw [h']; exact Bool.false_ne_true))
  | .slc o lo hi, e, c, X, h, hn, C, w, hw => by
    have hx := okX (.slc o lo hi) e h C
    have hs : shp (.slc o lo hi) e = true := shp_of h
    have h' : irr e = false := by cases e <;> first | rfl | cases hs
    exact wt_of hx (fun _ => by cases e <;> first | rfl | cases hs) w (hw.resolve_right (by rw [h']; exact Bool.false_ne_true))
  | .rev o, e, c, X, h, hn, C, w, hw => by
    have hx := okX (.rev o) e h C
    have hs : shp (.rev o) e = true := shp_of h
    have h' : irr e = false := by cases e <;> first | rfl | cases hs
    exact wt_of hx (fun _ => by cases e <;> first | rfl | cases hs) w (hw.resolve_right (by rw [h']; exact Bool.false_ne_true))
  | .lst as, e, c, X, h, hn, C, w, hw => by
    have hx := okX (.lst as) e h C
    have hs : shp (.lst as) e = true := shp_of h
    have h' : irr e = false := by cases e <;> first | rfl | cases hs
    exact wt_of hx (fun _ => by cases e <;> first | rfl | cases hs) w (hw.resolve_right (by rw [h']; exact Bool.false_ne_true))
  | .tup as, e, c, X, h, hn, C, w, hw => by
    have hx := okX (.tup as) e h C
    have hs : shp (.tup as) e = true := shp_of h
    have h' : irr e = false := by cases e <;> first | rfl | cases hs
    exact wt_of hx (fun _ => by cases e <;> first | rfl | cases hs) w (hw.resolve_right (by rw [h']; exact Bool.false_ne_true))
  | .lc x cl, e, c, X, h, hn, C, w, hw => by
    have hx := okX (.lc x cl) e h C
    have hs : shp (.lc x cl) e = true := shp_of h
    have h' : irr e = false := by cases e <;> first | rfl | cases hs
    exact wt_of hx (fun _ => by cases e <;> first | rfl | cases hs) w (hw.resolve_right (by rw [h']; exact Bool.false_ne_true))
  | .dc y x cl, e, c, X, h, hn, C, w, hw => by
    have hx := okX (.dc y x cl) e h C
    have hs : shp (.dc y x cl) e = true := shp_of h
    have h' : irr e = false := by cases e <;> first | rfl | cases hs
    exact wt_of hx (fun _ => by cases e <;> first | rfl | cases hs) w (hw.resolve_right (by rw [h']; exact Bool.false_ne_true))
  | .neg a, e, c, X, h, hn, C, w, hw => by
    have hx := okX (.neg a) e h C
    unfold chkX at h
    split at h
    · exact wt_of hx (fun _ => rfl) w (hw.resolve_right (by intro z; cases z))
    · cases h
  | .fnk _ _ _ _, _, _, _, h, _, _, _, _ => by cases h
  | .isi a t, e, c, X, h, hn, C, w, hw => by
    have hx := okX (.isi a t) e h C
    have hs : shp (.isi a t) e = true := shp_of h
    have h' : irr e = false := by cases e <;> first | rfl | cases hs
    exact wt_of hx (fun _ => by cases e <;> first | rfl | cases hs) w (hw.resolve_right (by rw [h']; exact Bool.false_ne_true))
  | .isi2 a t u, e, c, X, h, hn, C, w, hw => by
    have hx := okX (.isi2 a t u) e h C
    have hs : shp (.isi2 a t u) e = true := shp_of h
    have h' : irr e = false := by cases e <;> first | rfl | cases hs
    exact wt_of hx (fun _ => by cases e <;> first | rfl | cases hs) w (hw.resolve_right (by rw [h']; exact Bool.false_ne_true))
  | .dct ps, e, c, X, h, hn, C, w, hw => by
    have hx := okX (.dct ps) e h C
    have hs : shp (.dct ps) e = true := shp_of h
    have h' : irr e = false := by cases e <;> first | rfl | cases hs
    exact wt_of hx (fun _ => by cases e <;> first | rfl | cases hs) w (hw.resolve_right (by rw [h']; exact Bool.false_ne_true))
  | .ls _ _, _, _, _, h, _, _, _, _ => by cases h
  | .fst as, e, c, X, h, hn, C, w, hw => by
    have hx := okX (.fst as) e h C
    have hs : shp (.fst as) e = true := shp_of h
    have h' : irr e = false := by cases e <;> first | rfl | cases hs
    exact wt_of hx (fun _ => by cases e <;> first | rfl | cases hs) w (hw.resolve_right (by rw [h']; exact Bool.false_ne_true))
theorem okXs : ∀ (as : Xs) (es : List Expr) {c : Ck} {X : Cx}, chkXs c as es = true → Cok c q n X → WxA X es fun ρ => eXs q (hd c.τ.pg q n) as ρ
  | .nil, es, c, X, h, C => by
    have : es = [] := List.isEmpty_iff.mp h
    subst this
    exact wxa_nil
  | .cons a r, es, c, X, h, C => by
    unfold chkXs at h
    split at h
    · obtain ⟨h1, h⟩ := and2 h
      obtain ⟨h2, h3⟩ := and2 h
      exact wxa_cons (okX a _ h2 C) (okXs r _ h3 C) (fun ρ => lX q c.τ.pg n a ρ) (fun ρ => lcXs (lc_call _ q n) r ρ) (noSt_ok h1)
    · cases h
  | .star _ _, es, c, X, h, C => by cases h
theorem okDs : ∀ (as : Xs) (es : List Expr) {c : Ck} {X : Cx}, chkDs c as es = true → Cok c q n X → WxD X es fun ρ => eDs q (hd c.τ.pg q n) as ρ
  | .nil, es, c, X, h, C => by
    have : es = [] := List.isEmpty_iff.mp h
    subst this
    exact wxd_nil
  | .cons a r, es, c, X, h, C => by
    unfold chkDs at h
    split at h
    · obtain ⟨h1, h⟩ := and2 h
      obtain ⟨h2, h3⟩ := and2 h
      exact wxd_cons (okX a _ h2 C) (okDs r _ h3 C) (fun ρ => lX q c.τ.pg n a ρ) (fun ρ => lcDs (lc_call _ q n) r ρ) (noSt_ok h1)
    · cases h
  | .star a r, es, c, X, h, C => by
    unfold chkDs at h
    split at h
    · obtain ⟨h2, h3⟩ := and2 h
      exact wxd_star (okX a _ h2 C) (okDs r _ h3 C) (fun ρ => lX q c.τ.pg n a ρ) (fun ρ => lcDs (lc_call _ q n) r ρ)
    · cases h
theorem okJs : ∀ (as : Xs) (es : List Expr) {c : Ck} {X : Cx}, chkJs c as es = true → Cok c q n X → Pj X es (msOf q (hd c.τ.pg q n) as) ∧ ∀ ρ, eJ (msOf q (hd c.τ.pg q n) as) ρ = eDs q (hd c.τ.pg q n) as ρ
  | .nil, es, c, X, h, C => by
    have : es = [] := List.isEmpty_iff.mp h
    subst this
    exact ⟨.nil, fun _ => rfl⟩
  | .cons a r, es, c, X, h, C => by
    unfold chkJs at h
    split at h
    · obtain ⟨h1, h2⟩ := and2 h
      obtain ⟨p1, p2⟩ := okJs r _ h2 C
      cases a with
      | con d =>
        cases d with
        | str t =>
          have e1 := of_decide_eq_true h1
          subst e1
          refine ⟨.lit p1, fun ρ => ?_⟩
          show T.bind (T.bind (eX q (hd c.τ.pg q n) (.con (.str _)) ρ) finD) (fun u => T.bind (eJ (msOf q (hd c.τ.pg q n) r) ρ) fun us => T.pure (u :: us)) = _
          rw [p2 ρ]
          rfl
        | _ => cases h1
      | _ => cases h1
    · obtain ⟨h1, h2⟩ := and2 h
      obtain ⟨p1, p2⟩ := okJs r _ h2 C
      refine ⟨.val (okX a _ h1 C) (fun ρ => lX q c.τ.pg n a ρ) p1, fun ρ => ?_⟩
      show T.bind (T.bind (eX q (hd c.τ.pg q n) a ρ) finD) (fun u => T.bind (eJ (msOf q (hd c.τ.pg q n) r) ρ) fun us => T.pure (u :: us)) = _
      rw [p2 ρ]
      rfl
    · cases h
  | .star _ _, es, c, X, h, C => by cases h
theorem okXo : ∀ (x : Xo) (e : Option Expr) {c : Ck} {X : Cx}, chkXo c x e = true → Cok c q n X → WxO X e fun ρ => eXo q (hd c.τ.pg q n) x ρ
  | .no, e, c, X, h, C => by
    cases e with
    | none => exact wxo_none
    | some e => cases h
  | .yes a, e, c, X, h, C => by
    unfold chkXo at h
    split at h
    · exact wxo_some (okX a _ h C) fun ρ => lX q c.τ.pg n a ρ
    · cases h
theorem okC : ∀ (x : Xo) (es : List Expr) {c : Ck} {X : Cx}, chkC c x es = true → Cok c q n X → Wc X es fun ρ => eXt q (hd c.τ.pg q n) x ρ
  | .no, es, c, X, h, C => by
    have : es = [] := List.isEmpty_iff.mp h
    subst this
    exact wc_none
  | .yes a, es, c, X, h, C => by
    unfold chkC at h
    split at h
    · obtain ⟨h1, h2⟩ := and2 h
      exact wc_one (okT a _ h2 h1 C _ (.inl rfl))
    · cases h
theorem okIt : ∀ (x : It) (tg e : Expr) {c : Ck} {X : Cx}, chkIt c x tg e = true → Cok c q n X → Wi X tg e fun ρ => eIt q (hd c.τ.pg q n) x ρ
  | .val x, tg, e, c, X, h, C => wi_val (okX x _ (and2 h).2 C) fun ρ => lX q c.τ.pg n x ρ
  | .rg1 a, tg, e, c, X, h, C => by
    unfold chkIt at h
    split at h
    · obtain ⟨h1, h⟩ := and2 h
      obtain ⟨h2, h⟩ := and2 h
      obtain ⟨h3, h⟩ := and2 h
      obtain ⟨h4, h5⟩ := and2 h
      cases of_decide_eq_true h1
      exact wi_rg1 (okX a _ h5 C) (fun ρ => lX q c.τ.pg n a ρ) (gl_ok C h2).1 (C.gd.kn.fr _ h3) (noSt_ok h4)
    · cases h
  | .rg2 a b, tg, e, c, X, h, C => by
    unfold chkIt at h
    split at h
    · obtain ⟨h1, h⟩ := and2 h
      obtain ⟨h2, h⟩ := and2 h
      obtain ⟨h3, h⟩ := and2 h
      obtain ⟨h4, h⟩ := and2 h
      obtain ⟨h5, h⟩ := and2 h
      obtain ⟨h6, h7⟩ := and2 h
      cases of_decide_eq_true h1
      exact wi_rg2 (okX a _ h6 C) (okX b _ h7 C) (fun ρ => lX q c.τ.pg n a ρ) (fun ρ => lX q c.τ.pg n b ρ) (gl_ok C h2).1 (C.gd.kn.fr _ h3) (by rw [noSt_ok h4, noSt_ok h5]; rfl) (noSt_ok h5)
    · cases h
  | .rg3 _ _ _, tg, e, c, X, h, C => by cases h
  | .enum a, tg, e, c, X, h, C => by
    unfold chkIt at h
    split at h
    · obtain ⟨h0, h⟩ := and2 h
      obtain ⟨h1, h⟩ := and2 h
      obtain ⟨h2, h⟩ := and2 h
      obtain ⟨h3, h⟩ := and2 h
      obtain ⟨h4, h5⟩ := and2 h
      cases of_decide_eq_true h1
      cases tg with
      | Tuple ts k tp => exact wi_enum (okX a _ h5 C) (fun ρ => lX q c.τ.pg n a ρ) (gl_ok C h2).1 (C.gd.kn.fr _ h3) (noSt_ok h4)
      | _ => cases h0
    · cases h
  | .zip a b, tg, e, c, X, h, C => by
    unfold chkIt at h
    split at h
    · obtain ⟨h0, h⟩ := and2 h
      obtain ⟨h1, h⟩ := and2 h
      obtain ⟨h2, h⟩ := and2 h
      obtain ⟨h3, h⟩ := and2 h
      obtain ⟨h4, h⟩ := and2 h
      obtain ⟨h5, h⟩ := and2 h
      obtain ⟨h6, h7⟩ := and2 h
      cases of_decide_eq_true h1
      cases tg with
      | Tuple ts k tp => exact wi_zip (okX a _ h6 C) (okX b _ h7 C) (fun ρ => lX q c.τ.pg n a ρ) (fun ρ => lX q c.τ.pg n b ρ) (gl_ok C h2).1 (C.gd.kn.fr _ h3) (noSt_ok h4) (noSt_ok h5) (by rw [noSt_ok h5]; rfl)
      | _ => cases h0
    · cases h
  | .items a, tg, e, c, X, h, C => by
    unfold chkIt at h
    split at h
    · obtain ⟨h0, h⟩ := and2 h
      obtain ⟨h1, h⟩ := and2 h
      obtain ⟨h2, h⟩ := and2 h
      obtain ⟨h3, h4⟩ := and2 h
      cases of_decide_eq_true h1
      cases tg with
      | Tuple ts k tp => exact wi_items (okX a _ h4 C) (fun ρ => lX q c.τ.pg n a ρ) (ab_ok h2) h3
      | _ => cases h0
    · cases h
  | .vals a, tg, e, c, X, h, C => by
    unfold chkIt at h
    split at h
    · obtain ⟨h1, h⟩ := and2 h
      obtain ⟨h2, h⟩ := and2 h
      obtain ⟨h3, h4⟩ := and2 h
      cases of_decide_eq_true h1
      exact wi_vals (okX a _ h4 C) (fun ρ => lX q c.τ.pg n a ρ) (ab_ok h2) h3
    · cases h
end
end
end L4

set_option Elab.async false
set_option linter.all false
set_option maxRecDepth 100000
set_option maxHeartbeats 4000000
/-! Several names at once. -/
namespace L4
open PySem PySem.Spec PyProof.Rows L2
/-- what is wanted of an error, whatever cells came -/
def FinP (X : Cx) (σ : L2.St) (μ : Nat → Addr) (F : Hp) (k : Nat) (G' : Cs) {α : Type} (r : Except Err α) : Prop :=
  ∀ er, r = .error er → ∃ W, Takes X W ∧ ∀ μ' F' H' cls d, (∀ l, l < k → μ' l = μ l) → Ex F F' → Rep X.K μ' F' G' H' → IsE X.K F' er cls d → W cls d σ H'
def tP (X : Cx) (m : Env → T (List Rv)) : TA := fun σ H R => ∃ (μ : Nat → Addr) (ρ : Env) (F : Hp) (G : Cs) (r : Except Err (List Rv)) (G' : Cs), At X σ H μ ρ F G ∧ m ρ G = some (r, G') ∧ FinP X σ μ F G.length G' r ∧
  ∀ ws, r = .ok ws → ∀ μ' F' H' vs, (∀ l, l < G.length → μ' l = μ l) → Ex F F' → Rep X.K μ' F' G' H' → NoN ws → Paired (IsW X μ' F' G' H') ws vs → G.length ≤ G'.length → R vs H'
abbrev WxP (X : Cx) (es : List Expr) (m : Env → T (List Rv)) : Prop := PA X es (tP X m)
section
variable {X : Cx} {σ : L2.St} {H : Hp} {μ μ' : Nat → Addr} {ρ : Env} {F F1 F' H' : Hp} {G G1 G' : Cs} {e : Expr} {es : List Expr} {ma : Env → T Rv} {mas : Env → T (List Rv)} {pins : List (Addr × Obj)} {s : Shared}
theorem wxp_nil : WxP X [] (fun _ => T.pure []) := by
  refine ⟨fun pos pins s σ H R I ht => ?_⟩
  obtain ⟨μ, ρ, F, G, r, G', A, hx, fe, k⟩ := ht
  cases hx
  exact pa_nil.run pos pins s σ H R I (k [] rfl μ F H [] (fun _ _ => rfl) (Ex.refl F) A.rep (fun w h => by cases h) .nil (Nat.le_refl _))
/-- a value stays though cells come -/
theorem IsW.grow {w : Rv} {v : V} (h : IsW X μ F G H w v) (hn : ∀ u, w ≠ .n u) (e : Ex F F') (l : G.length ≤ G'.length) (hμ : ∀ k, k < G.length → μ' k = μ k) : IsW X μ' F' G' H' w v := by
  cases w with
  | d u => exact Is.mono e h
  | r k => exact ⟨Nat.lt_of_lt_of_le h.1 l, by rw [hμ k h.1]; exact h.2⟩
  | n u => exact absurd rfl (hn u)
  | ex er =>
    obtain ⟨Y, a, oe, cls, d, pn, h1, h2, h3, h4⟩ := h
    exact ⟨Y, a, oe, cls, d, pn, h1, h2, h3.mono e, h4⟩
/-- an item that is handed on as it is, frozen -/
theorem wxp_frz (ha : Wx X e ma) (hr : WxP X es mas) (la : ∀ ρ, Lc (ma ρ)) (hs : starEach (e :: es) X.env = (false, eval e X.env) :: starEach es X.env) :
    WxP X (e :: es) (fun ρ => T.bind (T.bind (ma ρ) fin) fun w => T.bind (mas ρ) fun ws => T.pure (w :: ws)) := by
  refine ⟨fun pos pins s σ H R I ht => ?_⟩
  obtain ⟨μ, ρ, F, G, r, G', A, hx, fe, k⟩ := ht
  refine (pa_cons (ha.frz la) hr hs).run pos pins s σ H R I ?_
  rcases T.bind_ok hx with ⟨er, h1, rfl⟩ | ⟨w, G1, h1, h2⟩
  · refine ⟨μ, ρ, F, G, _, G', A, h1, fun er' q => ?_, fun w q => by cases q⟩
    cases q
    obtain ⟨W, tk, hW⟩ := fe er rfl
    exact ⟨W, tk, fun F' H' cls d e' rp ie => hW μ F' H' cls d (fun _ _ => rfl) e' rp ie⟩
  · have l1 : G1.length = G.length := Lc.bind (la ρ) Lc.fin _ _ _ h1
    refine ⟨μ, ρ, F, G, .ok w, G1, A, h1, FinE.ok, fun w' q F1 H1 e1 rp1 v iw => ?_⟩
    cases q
    have nn := fin_eq h1
    have A1 := A.on e1 rp1 l1
    rcases T.bind_ok h2 with ⟨er, h3, rfl⟩ | ⟨ws, G2, h3, h4⟩
    · refine ⟨μ, ρ, F1, G1, _, G', A1, h3, fun er' q => ?_, fun w q => by cases q⟩
      cases q
      obtain ⟨W, tk, hW⟩ := fe er rfl
      exact ⟨W, tk, fun μ' F' H' cls d hμ e' rp ie => hW μ' F' H' cls d (fun l hl => hμ l (by rw [l1]; exact hl)) (e1.trans e') rp ie⟩
    · cases h4
      refine ⟨μ, ρ, F1, G1, .ok ws, G', A1, h3, (fun er q => by cases q), fun ws' q μ' F' H' vs hμ e' rp' n' i' lg => ?_⟩
      cases q
      refine k _ rfl μ' F' H' (v :: vs) (fun l hl => hμ l (by rw [l1]; exact hl)) (e1.trans e') rp' (fun w' hw => ?_) (.cons (iw.grow nn e' lg hμ) i') (by rw [← l1]; exact lg)
      rcases List.mem_cons.mp hw with rfl | hw
      · exact nn
      · exact n' w' hw
def keepT (w : Rv) : T Rv := fun G => match w with
  | .n u => some (.ok (.r G.length), G ++ [u])
  | w => some (.ok w, G)
/-- .. kept: a new object becomes a cell -/
theorem wxp_keep (ha : Wx X e ma) (hr : WxP X es mas) (la : ∀ ρ, Lc (ma ρ)) (hs : starEach (e :: es) X.env = (false, eval e X.env) :: starEach es X.env) :
    WxP X (e :: es) (fun ρ => T.bind (T.bind (ma ρ) keepT) fun w => T.bind (mas ρ) fun ws => T.pure (w :: ws)) := by
  refine ⟨fun pos pins s σ H R I ht => ?_⟩
  obtain ⟨μ, ρ, F, G, r, G', A, hx, fe, k⟩ := ht
  refine (pa_cons ha hr hs).run pos pins s σ H R I ?_
  have hx : T.bind (T.bind (ma ρ) keepT) (fun w => T.bind (mas ρ) fun ws => T.pure (w :: ws)) G = some (r, G') := hx
  rw [T.bind_assoc] at hx
  rcases T.bind_ok hx with ⟨er, h1, rfl⟩ | ⟨w, G1, h1, h2⟩
  · refine ⟨μ, ρ, F, G, _, G', A, h1, fun er' q => ?_, fun w q => by cases q⟩
    cases q
    obtain ⟨W, tk, hW⟩ := fe er rfl
    exact ⟨W, tk, fun F' H' cls d e' rp ie => hW μ F' H' cls d (fun _ _ => rfl) e' rp ie⟩
  · have l1 : G1.length = G.length := la ρ _ _ _ h1
    refine ⟨μ, ρ, F, G, .ok w, G1, A, h1, FinE.ok, fun w' q F1 H1 e1 rp1 v iw => ?_⟩
    cases q
    have A1 := A.on e1 rp1 l1
    -- the state behind the first item
    have go : ∀ (w2 : Rv) (G2 : Cs) (μ2 : Nat → Addr), (∀ u, w2 ≠ .n u) → G1.length ≤ G2.length → (∀ l, l < G1.length → μ2 l = μ l) → At X σ H1 μ2 ρ F1 G2 → IsW X μ2 F1 G2 H1 w2 v → T.bind (mas ρ) (fun ws => T.pure (w2 :: ws)) G2 = some (r, G') →
        tP X mas σ H1 (fun xs H2 => R (v :: xs) H2) := fun w2 G2 μ2 nn lg hμ2 A2 i2 h2 => by
      rcases T.bind_ok h2 with ⟨er, h3, rfl⟩ | ⟨ws, G3, h3, h4⟩
      · refine ⟨μ2, ρ, F1, G2, _, G', A2, h3, fun er' q => ?_, fun w q => by cases q⟩
        cases q
        obtain ⟨W, tk, hW⟩ := fe er rfl
        exact ⟨W, tk, fun μ' F' H' cls d hμ e' rp ie => hW μ' F' H' cls d (fun l hl => (hμ l (by omega)).trans (hμ2 l (by omega))) (e1.trans e') rp ie⟩
      · cases h4
        refine ⟨μ2, ρ, F1, G2, .ok ws, G', A2, h3, (fun er q => by cases q), fun ws' q μ' F' H' vs hμ e' rp' n' i' lg' => ?_⟩
        cases q
        refine k _ rfl μ' F' H' (v :: vs) (fun l hl => (hμ l (by omega)).trans (hμ2 l (by omega))) (e1.trans e') rp' (fun w' hw => ?_) (.cons (i2.grow nn e' lg' hμ) i') (by omega)
        rcases List.mem_cons.mp hw with rfl | hw
        · exact nn
        · exact n' w' hw
    cases w with
    | n u =>
      obtain ⟨a, rfl, q1, q2, q3⟩ := (show ∃ a, v = .ref a ∧ F1 a = none ∧ (∀ l, l < G1.length → μ l ≠ a) ∧ Ob X.K F1 H1 a u from iw)
      refine go (.r G1.length) (G1 ++ [u]) (mu1 μ G1.length a) (fun _ z => by cases z) (by rw [List.length_append]; exact Nat.le_add_right _ _) (fun l hl => mu1_lt hl) ⟨A1.env.push, A1.rep.push q1 q2 q3⟩ ⟨by rw [List.length_append, List.length_singleton]; omega, by rw [mu1_at]⟩ h2
    | d u => exact go (.d u) G1 μ (fun _ z => by cases z) (Nat.le_refl _) (fun _ _ => rfl) A1 iw h2
    | r l => exact go (.r l) G1 μ (fun _ z => by cases z) (Nat.le_refl _) (fun _ _ => rfl) A1 iw h2
    | ex er => exact go (.ex er) G1 μ (fun _ z => by cases z) (Nat.le_refl _) (fun _ _ => rfl) A1 iw h2
end
end L4

set_option Elab.async false
set_option linter.all false
set_option maxRecDepth 100000
set_option maxHeartbeats 4000000
/-! x, y = a, b. -/
namespace L4
open PySem PySem.Spec PyProof.Rows L2
section
variable {X : Cx} {σ : L2.St} {H : Hp} {μ μ' : Nat → Addr} {ρ ρ1 : Env} {F F1 F' H' : Hp} {G G1 G' : Cs} {e a b d : Expr} {es : List Expr} {ma : Env → T Rv} {m : Env → T (List Rv)} {pins : List (Addr × Obj)} {s : Shared} {q : Bool} {n : Nat} {c : Ck} {x y z : Str} {px py pz pt pt2 pos : Pos} {kt k2 : Nat}
theorem EnvOk.grow (h : EnvOk X μ F G ρ σ) (e : Ex F F') (l : G.length ≤ G'.length) (hμ : ∀ k, k < G.length → μ' k = μ k) : EnvOk X μ' F' G' ρ σ :=
  ⟨h.len, fun i w hw => by
    obtain ⟨v, h1, h2⟩ := h.at_ i w hw
    refine ⟨v, h1, ?_⟩
    cases w with
    | d u => exact Is.mono e h2
    | r k => exact ⟨Nat.lt_of_lt_of_le h2.1 l, by rw [hμ k h2.1]; exact h2.2⟩
    | n u => exact h2
    | ex er =>
      obtain ⟨Y, a, oe, cls, d, pn, h1, h2, h3, h4⟩ := h2
      exact ⟨Y, a, oe, cls, d, pn, h1, h2, h3.mono e, h4⟩⟩
theorem keep_eq {m : T Rv} {k : Rv → T (List Rv)} : T.bind m (fun w => T.bind (fun G => match true, w with
      | true, .n u => some (.ok (.r G.length), G ++ [u])
      | true, w => some (.ok w, G)
      | false, w => some (.ok w.frz, G)) k) = T.bind (T.bind m keepT) k := by
  rw [T.bind_assoc]
  congr 1
  funext w G
  cases w <;> rfl
theorem frz_eq {m : T Rv} {k : Rv → T (List Rv)} : T.bind m (fun w => T.bind (fun G => match false, w with
      | true, .n u => some (.ok (.r G.length), G ++ [u])
      | true, w => some (.ok w, G)
      | false, w => some (.ok w.frz, G)) k) = T.bind (T.bind m fin) k := by
  rw [T.bind_assoc]
  congr 1
theorem wxp_stuck {m : Env → T (List Rv)} (h : ∀ ρ G, m ρ G = none) : WxP X es m := ⟨fun pos pins s σ H R I ht => by
  obtain ⟨μ, ρ, F, G, r, G', A, hx, _⟩ := ht
  rw [h] at hx; cases hx⟩
theorem okPs : ∀ (as : Xs) (ks : List Bool) (es : List Expr) {c : Ck} {X : Cx}, chkXs c as es = true → Cok c q n X → WxP X es fun ρ => parK ks as fun a => eX q (hd c.τ.pg q n) a ρ
  | .nil, ks, es, c, X, h, C => by
    have : es = [] := List.isEmpty_iff.mp h
    subst this
    cases ks with
    | nil => exact wxp_nil
    | cons k ks => exact wxp_stuck fun _ _ => rfl
  | .cons a r, ks, es, c, X, h, C => by
    unfold chkXs at h
    split at h
    · obtain ⟨h1, h⟩ := and2 h
      obtain ⟨h2, h3⟩ := and2 h
      cases ks with
      | nil => exact wxp_stuck fun _ _ => rfl
      | cons k ks =>
        have hr := okPs r ks _ h3 C
        cases k with
        | true =>
          have z := wxp_keep (okX (q := q) (n := n) a _ h2 C) hr (fun ρ => lX q c.τ.pg n a ρ) (noSt_ok h1)
          have e : (fun ρ => parK (true :: ks) (.cons a r) fun a => eX q (hd c.τ.pg q n) a ρ) = fun ρ => T.bind (T.bind (eX q (hd c.τ.pg q n) a ρ) keepT) fun w => T.bind (parK ks r fun a => eX q (hd c.τ.pg q n) a ρ) fun ws => T.pure (w :: ws) := by
            funext ρ
            rw [← keep_eq]
            rfl
          rw [e]
          exact z
        | false =>
          have z := wxp_frz (okX (q := q) (n := n) a _ h2 C) hr (fun ρ => lX q c.τ.pg n a ρ) (noSt_ok h1)
          have e : (fun ρ => parK (false :: ks) (.cons a r) fun a => eX q (hd c.τ.pg q n) a ρ) = fun ρ => T.bind (T.bind (eX q (hd c.τ.pg q n) a ρ) fin) fun w => T.bind (parK ks r fun a => eX q (hd c.τ.pg q n) a ρ) fun ws => T.pure (w :: ws) := by
            funext ρ
            rw [← frz_eq]
            rfl
          rw [e]
          exact z
    · cases h
  | .star _ _, ks, es, c, X, h, C => by cases h
/-- behind the items -/
theorem tP_lift {is : List Nat} {ou : Out} {bb : Nat} {D : Ends} {R : List V → Hp → Prop} (lg : ∀ ρ G r G', m ρ G = some (r, G') → G.length ≤ G'.length) (A : At X σ H μ ρ F G) (hb : bb ≤ G.length)
    (hx : lift (m ρ) ρ G (fun ws G1 => match setAll is ws ρ with | some ρ1 => some (.nx, ρ1, G1) | none => none) = some (ou, ρ1, G1)) (wt : Wants X D bb μ F ou ρ1 G1)
    (next : ∀ ws vs H' μ' F', setAll is ws ρ = some ρ1 → ou = .nx → At X σ H' μ' ρ F' G1 → NoN ws → Paired (IsW X μ' F' G1 H') ws vs → Wants X D bb μ' F' .nx ρ1 G1 → R vs H') : tP X m σ H R := by
  rcases lift_ok hx with ⟨er, h1, rfl, rfl⟩ | ⟨ws, G2, h1, h2⟩
  · have l1 := lg _ _ _ _ h1
    refine ⟨μ, _, F, G, _, G1, A, h1, fun er' q => ?_, fun w q => by cases q⟩
    cases q
    obtain ⟨W, tk, hW⟩ := wt
    exact ⟨W, tk, fun μ' F' H' cls d hμ e' rp ie => hW σ H' μ' F' cls d e' (fun l hl => hμ l (Nat.lt_of_lt_of_le hl hb)) ⟨A.env.grow e' l1 hμ, rp⟩ ie⟩
  · have l1 := lg _ _ _ _ h1
    cases hs : setAll is ws ρ with
    | none => rw [hs] at h2; cases h2
    | some ρ2 =>
      rw [hs] at h2
      cases h2
      refine ⟨μ, ρ, F, G, .ok ws, G1, A, h1, (fun er q => by cases q), fun ws' q μ' F' H' vs hμ e' rp n' i' _ => ?_⟩
      cases q
      exact next ws vs H' μ' F' hs rfl ⟨A.env.grow e' l1 hμ, rp⟩ n' i' (wt.mono e' (fun l hl => hμ l (Nat.lt_of_lt_of_le hl hb)) (Nat.le_refl _))
theorem ws_par2 {i j : Nat} (hc : X.calm = true) (lg : ∀ ρ G r G', m ρ G = some (r, G') → G.length ≤ G'.length) (hN : X.N.Nodup) (hi : X.N[i]? = some x) (hj : X.N[j]? = some y) (hij : i ≠ j) (hx : X.env.scope.names.lookup x = some .local) (hy : X.env.scope.names.lookup y = some .local) (ha : WxP X [a, b] m)
    (hw : swappedStores [.Tuple [.Name x px, .Name y py] kt pt] (.Tuple [a, b] k2 pt2) X.env = pure (some [x, y])) :
    Ws X (.Assign [.Tuple [.Name x px, .Name y py] kt pt] (.Tuple [a, b] k2 pt2) pos) (fun _ ρ G => lift (m ρ) ρ G fun ws G1 => match setAll [i, j] ws ρ with
    | some ρ1 => some (.nx, ρ1, G1)
    | none => none) := by
  refine ⟨fun pins s σ H D I h => ?_⟩
  obtain ⟨bb, μ, ρ, F, G, ou, ρ1, G1, A, hb, hx', wt⟩ := h
  refine (ps_par hc hN hi hj hij hx hy ha hw rfl).run pins s σ H D I (tP_lift (is := [i, j]) lg A hb hx' wt fun ws vs H' μ' F' hs eo A' nn iw wt' => ?_)
  match ws, iw with
  | [w1, w2], .cons i1 (.cons i2 .nil) =>
    cases hs
    exact ⟨_, _, rfl, wt' _ H' μ' F' (Ex.refl _) (fun _ _ => rfl) ⟨(A'.env.set i (i1.s (nn _ (by simp)))).set j (i2.s (nn _ (by simp))), A'.rep⟩⟩
  | [], _ => cases hs
  | [_], _ => cases hs
  | _ :: _ :: _ :: _, _ => cases hs
theorem ws_par3 {i j l : Nat} (hc : X.calm = true) (lg : ∀ ρ G r G', m ρ G = some (r, G') → G.length ≤ G'.length) (hN : X.N.Nodup) (hi : X.N[i]? = some x) (hj : X.N[j]? = some y) (hl : X.N[l]? = some z) (hij : i ≠ j) (hil : i ≠ l) (hjl : j ≠ l) (hx : X.env.scope.names.lookup x = some .local) (hy : X.env.scope.names.lookup y = some .local) (hz : X.env.scope.names.lookup z = some .local) (ha : WxP X [a, b, d] m)
    (hw : swappedStores [.Tuple [.Name x px, .Name y py, .Name z pz] kt pt] (.Tuple [a, b, d] k2 pt2) X.env = pure (some [x, y, z])) :
    Ws X (.Assign [.Tuple [.Name x px, .Name y py, .Name z pz] kt pt] (.Tuple [a, b, d] k2 pt2) pos) (fun _ ρ G => lift (m ρ) ρ G fun ws G1 => match setAll [i, j, l] ws ρ with
    | some ρ1 => some (.nx, ρ1, G1)
    | none => none) := by
  refine ⟨fun pins s σ H D I h => ?_⟩
  obtain ⟨bb, μ, ρ, F, G, ou, ρ1, G1, A, hb, hx', wt⟩ := h
  refine (ps_par3 hc hN hi hj hl hij hil hjl hx hy hz ha hw rfl).run pins s σ H D I (tP_lift (is := [i, j, l]) lg A hb hx' wt fun ws vs H' μ' F' hs eo A' nn iw wt' => ?_)
  match ws, iw with
  | [w1, w2, w3], .cons i1 (.cons i2 (.cons i3 .nil)) =>
    cases hs
    exact ⟨_, _, _, rfl, wt' _ H' μ' F' (Ex.refl _) (fun _ _ => rfl) ⟨((A'.env.set i (i1.s (nn _ (by simp)))).set j (i2.s (nn _ (by simp)))).set l (i3.s (nn _ (by simp))), A'.rep⟩⟩
  | [], _ => cases hs
  | [_], _ => cases hs
  | [_, _], _ => cases hs
  | _ :: _ :: _ :: _ :: _, _ => cases hs
end
end L4

set_option Elab.async false
set_option linter.all false
set_option maxRecDepth 100000
set_option maxHeartbeats 4000000
/-! try .. except, one clause. -/
namespace L4
open PySem PySem.Spec PyProof.Rows L2
section
variable {X Y : Cx} {σ : L2.St} {H : Hp} {μ : Nat → Addr} {ρ ρ1 : Env} {F F1 : Hp} {G G1 : Cs} {pins : List (Addr × Obj)} {s : Shared} {x nm : Str} {cv : Value} {i : Nat} {body suite : List Stmt} {b₀ : Stmt} {np pos pos' : Pos} {m mh : Nat → Env → Cs → TS} {exm : Str → Option Bool}
theorem isX_calm {er : Err} {v : V} (h : IsX X F er v) (hc : X.calm = true) : False := by
  obtain ⟨Y, a, oe, cls, d, pn, e, _⟩ := h
  rw [e] at hc
  cases hc
/-- where nothing is handled the place does not matter -/
theorem EnvOk.any (h : EnvOk X μ F G ρ σ) (hc : X.calm = true) (hK : Y.K = X.K) : EnvOk Y μ F G ρ σ :=
  ⟨h.len, fun i w hw => by
    obtain ⟨v, h1, h2⟩ := h.at_ i w hw
    refine ⟨v, h1, ?_⟩
    cases w with
    | d u => show Is Y.K F u v; rw [hK]; exact h2
    | r k => exact h2
    | n u => exact h2
    | ex er => exact (isX_calm h2 hc).elim⟩
theorem EnvOk.clr (h : EnvOk X μ F G ρ σ) (hK : Y.K = X.K) : EnvOk Y μ F G (clr ρ) σ :=
  ⟨by unfold L4.clr; rw [List.length_map]; exact h.len, fun i w hw => by
    unfold L4.clr at hw
    rw [List.getElem?_map] at hw
    obtain ⟨o, h1, h2⟩ := Option.map_eq_some_iff.mp hw
    cases o with
    | none => cases h2
    | some w' =>
      cases w' with
      | ex er => cases h2
      | d u =>
        cases h2
        obtain ⟨v, k1, k2⟩ := h.at_ i _ h1
        exact ⟨v, k1, by show Is Y.K F u v; rw [hK]; exact k2⟩
      | r l => cases h2; exact h.at_ i _ h1
      | n u => cases h2; exact h.at_ i _ h1⟩
theorem IsW.any {w : Rv} {v : V} (h : IsW X μ F G H w v) (hn : ∀ er, w ≠ .ex er) (hK : Y.K = X.K) : IsW Y μ F G H w v := by
  cases w with
  | d u => show Is Y.K F u v; rw [hK]; exact h
  | r k => exact h
  | n u =>
    show IsV Y.K μ F G H (.n u) v
    rw [hK]; exact h
  | ex er => exact absurd rfl (hn er)
theorem At.any (h : At X σ H μ ρ F G) (hc : X.calm = true) (hK : Y.K = X.K) : At Y σ H μ ρ F G := ⟨h.env.any hc hK, by rw [hK]; exact h.rep⟩
/-- what the clause does -/
def catchT (i : Option Nat) (exm : Str → Option Bool) (mh : Nat → Env → Cs → TS) (b : Nat) : TS → TS
  | some (.exc er, ρ1, G1) => match exm er.cls with
    | some true => behind i (mh b (match i with | some i => ρ1.set i (some (.ex er)) | none => ρ1) G1)
    | some false => some (.exc er, ρ1, G1)
    | none => none
  | r => r
theorem takes_wants {D : Ends} {b : Nat} {ou : Out} (wt : Wants X D b μ F ou ρ1 G1) : ∃ Wo, Takes X Wo ∧ ∀ er, ou = .exc er → ∀ σ' H' μ' F' cls d, Ex F F' → (∀ l, l < b → μ' l = μ l) → At X σ' H' μ' ρ1 F' G1 → IsE X.K F' er cls d → Wo cls d σ' H' := by
  cases ou with
  | exc er =>
    obtain ⟨W, tk, hW⟩ := wt
    exact ⟨W, tk, fun er' q => by cases q; exact hW⟩
  | nx => exact ⟨fun _ _ _ _ => False, fun u s' ⟨_, _, _, _, _, _, _, _, _, _, _, _, _, _, _, _, z⟩ => z.elim, fun er q => by cases q⟩
  | brk => exact ⟨fun _ _ _ _ => False, fun u s' ⟨_, _, _, _, _, _, _, _, _, _, _, _, _, _, _, _, z⟩ => z.elim, fun er q => by cases q⟩
  | cnt => exact ⟨fun _ _ _ _ => False, fun u s' ⟨_, _, _, _, _, _, _, _, _, _, _, _, _, _, _, _, z⟩ => z.elim, fun er q => by cases q⟩
  | ret w => exact ⟨fun _ _ _ _ => False, fun u s' ⟨_, _, _, _, _, _, _, _, _, _, _, _, _, _, _, _, z⟩ => z.elim, fun er q => by cases q⟩
/-- try .. except x as nm -/
theorem ws_try_as (hs : X.stack = X.env :: X.outer) (hf : X.env.frame = some X.env.locals) (hN : X.N.Nodup) (hi : X.N[i]? = some nm) (hln : X.env.kindOf nm = some .local) (hc : Names X x cv) (hcalm : X.calm = true)
    (hex : ∀ C b, exm C = some b → PySem.W.exmOne X.K (.ref (He.ga X.K C)) cv = some b)
    (hb : ∀ (pn : List (Addr × Obj)) (xe : Value → Shared → Prop), PassesOwn (model X.prog X.w) X.A X.env xe → Wss (X.tr pn xe) body m) (gw : ∀ b ρ G, Gw (m b ρ G) G.length)
    (hh : ∀ (a : Addr) (oe : Obj) (pn : List (Addr × Obj)), (∃ vs, oe.data = .fields vs) → Wss (X.suite a ((a, oe) :: pn)) (b₀ :: suite) mh) :
    Ws X (.Try body [.ExceptHandler (some (.Name x np)) (some nm) (b₀ :: suite) pos'] [] [] pos) (fun b ρ G => catchT (some i) exm mh b (m b ρ G)) := by
  refine ⟨fun pins s σ H D I h => ?_⟩
  obtain ⟨b, μ, ρ, F, G, ou, ρ1, G1, A, hb0, hx, wt⟩ := h
  obtain ⟨Wo, tko, hWo⟩ := takes_wants wt
  refine (ps_try_as (tb := fun W D σ' H' => ∀ (pn : List (Addr × Obj)) (xe : Value → Shared → Prop), Takes (X.tr pn xe) W → PassesOwn (model X.prog X.w) X.A X.env xe → tS (X.tr pn xe) m D σ' H')
    (ts := fun a cls d D σ' H' => ∀ (oe : Obj) (pn : List (Addr × Obj)), Zc cls d oe → (∃ vs, oe.data = .fields vs) → tS (X.suite a ((a, oe) :: pn)) mh D σ' H') hs hf hN hi hln hc tko
    (fun W pn xe tk po => ⟨fun pins s σ H D I h => (hb pn xe po).run pins s σ H D I (h pn xe tk po)⟩) (fun a oe cls d pn hz hfl => ⟨fun pins s σ H D I h => (hh a oe pn hfl).run pins s σ H D I (h oe pn hz hfl)⟩)).run pins s σ H D I ?_
  intro pn xe tkB po
  have hx : catchT (some i) exm mh b (m b ρ G) = some (ou, ρ1, G1) := hx
  cases hm : m b ρ G with
  | none => rw [hm] at hx; cases hx
  | some z =>
    obtain ⟨o, ρ2, G2⟩ := z
    rw [hm] at hx
    have lg := gw b ρ G _ _ _ hm
    refine ⟨b, μ, ρ, F, G, o, ρ2, G2, A.any hcalm rfl, hb0, hm, ?_⟩
    cases o with
    | nx => cases hx; exact fun σ' H' μ' F' e a A' => wt σ' H' μ' F' e a (A'.any hcalm rfl)
    | brk => cases hx; exact fun σ' H' μ' F' e a A' => wt σ' H' μ' F' e a (A'.any hcalm rfl)
    | cnt => cases hx; exact fun σ' H' μ' F' e a A' => wt σ' H' μ' F' e a (A'.any hcalm rfl)
    | ret w =>
      cases hx
      exact fun H' μ' F' v e a rp iw => wt H' μ' F' v e a rp (iw.any (fun er z => by subst z; exact isX_calm iw hcalm) rfl)
    | exc er =>
      refine ⟨_, tkB, fun σ' H' μ' F' cls d e hμ A' ie => ?_⟩
      have hx : (match exm er.cls with
        | some true => behind (some i) (mh b (ρ2.set i (some (.ex er))) G2)
        | some false => some (Out.exc er, ρ2, G2)
        | none => none) = some (ou, ρ1, G1) := hx
      cases hq : exm er.cls with
      | none => rw [hq] at hx; cases hx
      | some t =>
        rw [hq] at hx
        have hone : PySem.W.exmOne X.K cls cv = some t := by rw [ie.1]; exact hex _ _ hq
        cases t with
        | false =>
          cases hx
          exact ⟨false, hone, (fun z => by cases z), fun _ => hWo er rfl σ' H' μ' F' cls d e hμ (A'.any hcalm rfl) ie⟩
        | true =>
          refine ⟨true, hone, fun _ a na oe pn' hz hfl => ?_, fun z => by cases z⟩
          dsimp only at hx
          cases hmh : mh b (ρ2.set i (some (.ex er))) G2 with
          | none => rw [hmh] at hx; cases hx
          | some z =>
            obtain ⟨o3, ρ3, G3⟩ := z
            rw [hmh] at hx
            have env2 : EnvOk (X.suite a ((a, oe) :: pn')) μ' F' G2 (ρ2.set i (some (.ex er))) (σ'.set i (some (.ref a))) :=
              (A'.env.any (Y := X.suite a ((a, oe) :: pn')) hcalm rfl).set i (w := .ex er) ⟨X, a, oe, cls, d, pn', rfl, rfl, ie, hz, hfl⟩
            refine ⟨b, μ', _, F', G2, o3, ρ3, G3, ⟨env2, A'.rep⟩, Nat.le_trans hb0 lg, hmh, ?_⟩
            cases o3 with
            | nx => cases hx; exact fun σ4 H4 μ4 F4 e4 a4 A4 => wt (σ4.set i none) H4 μ4 F4 (e.trans e4) (fun l hl => (a4 l hl).trans (hμ l hl)) ⟨(A4.env.setNone i none).clr rfl, A4.rep⟩
            | brk => cases hx; exact fun σ4 H4 μ4 F4 e4 a4 A4 => wt (σ4.set i none) H4 μ4 F4 (e.trans e4) (fun l hl => (a4 l hl).trans (hμ l hl)) ⟨(A4.env.setNone i none).clr rfl, A4.rep⟩
            | cnt => cases hx; exact fun σ4 H4 μ4 F4 e4 a4 A4 => wt (σ4.set i none) H4 μ4 F4 (e.trans e4) (fun l hl => (a4 l hl).trans (hμ l hl)) ⟨(A4.env.setNone i none).clr rfl, A4.rep⟩
            | ret w =>
              cases w with
              | ex er' => cases hx
              | d u => cases hx; exact fun H4 μ4 F4 v e4 a4 rp iw => wt H4 μ4 F4 v (e.trans e4) (fun l hl => (a4 l hl).trans (hμ l hl)) rp (iw.any (fun er z => by cases z) rfl)
              | r u => cases hx; exact fun H4 μ4 F4 v e4 a4 rp iw => wt H4 μ4 F4 v (e.trans e4) (fun l hl => (a4 l hl).trans (hμ l hl)) rp (iw.any (fun er z => by cases z) rfl)
              | n u => cases hx; exact fun H4 μ4 F4 v e4 a4 rp iw => wt H4 μ4 F4 v (e.trans e4) (fun l hl => (a4 l hl).trans (hμ l hl)) rp (iw.any (fun er z => by cases z) rfl)
            | exc er' => cases hx
end
end L4

set_option Elab.async false
set_option linter.all false
set_option maxRecDepth 100000
set_option maxHeartbeats 4000000
/-! A clause without a name; what a clause's suite may hold. -/
namespace L4
open PySem PySem.Spec PyProof.Rows L2
section
variable {X Y : Cx} {σ : L2.St} {H : Hp} {μ : Nat → Addr} {ρ ρ1 : Env} {F F1 : Hp} {G G1 : Cs} {pins : List (Addr × Obj)} {s : Shared} {x nm : Str} {cv : Value} {i : Nat} {body suite : List Stmt} {b₀ : Stmt} {np pos pos' : Pos} {m mh : Nat → Env → Cs → TS} {exm : Str → Option Bool}
/-- try .. except x -/
theorem ws_try_only (hs : X.stack = X.env :: X.outer) (hf : X.env.frame = some X.env.locals) (hc : Names X x cv) (hcalm : X.calm = true)
    (hex : ∀ C b, exm C = some b → PySem.W.exmOne X.K (.ref (He.ga X.K C)) cv = some b)
    (hb : ∀ (pn : List (Addr × Obj)) (xe : Value → Shared → Prop), PassesOwn (model X.prog X.w) X.A X.env xe → Wss (X.tr pn xe) body m) (gw : ∀ b ρ G, Gw (m b ρ G) G.length)
    (hh : ∀ (a : Addr) (oe : Obj) (pn : List (Addr × Obj)), (∃ vs, oe.data = .fields vs) → Wss (X.suite a ((a, oe) :: pn)) (b₀ :: suite) mh) :
    Ws X (.Try body [.ExceptHandler (some (.Name x np)) none (b₀ :: suite) pos'] [] [] pos) (fun b ρ G => catchT none exm mh b (m b ρ G)) := by
  refine ⟨fun pins s σ H D I h => ?_⟩
  obtain ⟨b, μ, ρ, F, G, ou, ρ1, G1, A, hb0, hx, wt⟩ := h
  obtain ⟨Wo, tko, hWo⟩ := takes_wants wt
  refine (ps_try_only (tb := fun W D σ' H' => ∀ (pn : List (Addr × Obj)) (xe : Value → Shared → Prop), Takes (X.tr pn xe) W → PassesOwn (model X.prog X.w) X.A X.env xe → tS (X.tr pn xe) m D σ' H')
    (ts := fun a cls d D σ' H' => ∀ (oe : Obj) (pn : List (Addr × Obj)), Zc cls d oe → (∃ vs, oe.data = .fields vs) → tS (X.suite a ((a, oe) :: pn)) mh D σ' H') hs hf hc tko
    (fun W pn xe tk po => ⟨fun pins s σ H D I h => (hb pn xe po).run pins s σ H D I (h pn xe tk po)⟩) (fun a oe cls d pn hz hfl => ⟨fun pins s σ H D I h => (hh a oe pn hfl).run pins s σ H D I (h oe pn hz hfl)⟩)).run pins s σ H D I ?_
  intro pn xe tkB po
  have hx : catchT none exm mh b (m b ρ G) = some (ou, ρ1, G1) := hx
  cases hm : m b ρ G with
  | none => rw [hm] at hx; cases hx
  | some z =>
    obtain ⟨o, ρ2, G2⟩ := z
    rw [hm] at hx
    have lg := gw b ρ G _ _ _ hm
    refine ⟨b, μ, ρ, F, G, o, ρ2, G2, A.any hcalm rfl, hb0, hm, ?_⟩
    cases o with
    | nx => cases hx; exact fun σ' H' μ' F' e a A' => wt σ' H' μ' F' e a (A'.any hcalm rfl)
    | brk => cases hx; exact fun σ' H' μ' F' e a A' => wt σ' H' μ' F' e a (A'.any hcalm rfl)
    | cnt => cases hx; exact fun σ' H' μ' F' e a A' => wt σ' H' μ' F' e a (A'.any hcalm rfl)
    | ret w =>
      cases hx
      exact fun H' μ' F' v e a rp iw => wt H' μ' F' v e a rp (iw.any (fun er z => by subst z; exact isX_calm iw hcalm) rfl)
    | exc er =>
      refine ⟨_, tkB, fun σ' H' μ' F' cls d e hμ A' ie => ?_⟩
      have hx : (match exm er.cls with
        | some true => behind none (mh b ρ2 G2)
        | some false => some (Out.exc er, ρ2, G2)
        | none => none) = some (ou, ρ1, G1) := hx
      cases hq : exm er.cls with
      | none => rw [hq] at hx; cases hx
      | some t =>
        rw [hq] at hx
        have hone : PySem.W.exmOne X.K cls cv = some t := by rw [ie.1]; exact hex _ _ hq
        cases t with
        | false =>
          cases hx
          exact ⟨false, hone, (fun z => by cases z), fun _ => hWo er rfl σ' H' μ' F' cls d e hμ (A'.any hcalm rfl) ie⟩
        | true =>
          refine ⟨true, hone, fun _ a na oe pn' hz hfl => ?_, fun z => by cases z⟩
          dsimp only at hx
          cases hmh : mh b ρ2 G2 with
          | none => rw [hmh] at hx; cases hx
          | some z =>
            obtain ⟨o3, ρ3, G3⟩ := z
            rw [hmh] at hx
            have env2 : EnvOk (X.suite a ((a, oe) :: pn')) μ' F' G2 ρ2 σ' := A'.env.any (Y := X.suite a ((a, oe) :: pn')) hcalm rfl
            refine ⟨b, μ', _, F', G2, o3, ρ3, G3, ⟨env2, A'.rep⟩, Nat.le_trans hb0 lg, hmh, ?_⟩
            cases o3 with
            | nx => cases hx; exact fun σ4 H4 μ4 F4 e4 a4 A4 => wt σ4 H4 μ4 F4 (e.trans e4) (fun l hl => (a4 l hl).trans (hμ l hl)) ⟨A4.env.clr rfl, A4.rep⟩
            | brk => cases hx; exact fun σ4 H4 μ4 F4 e4 a4 A4 => wt σ4 H4 μ4 F4 (e.trans e4) (fun l hl => (a4 l hl).trans (hμ l hl)) ⟨A4.env.clr rfl, A4.rep⟩
            | cnt => cases hx; exact fun σ4 H4 μ4 F4 e4 a4 A4 => wt σ4 H4 μ4 F4 (e.trans e4) (fun l hl => (a4 l hl).trans (hμ l hl)) ⟨A4.env.clr rfl, A4.rep⟩
            | ret w =>
              cases w with
              | ex er' => cases hx
              | d u => cases hx; exact fun H4 μ4 F4 v e4 a4 rp iw => wt H4 μ4 F4 v (e.trans e4) (fun l hl => (a4 l hl).trans (hμ l hl)) rp (iw.any (fun er z => by cases z) rfl)
              | r u => cases hx; exact fun H4 μ4 F4 v e4 a4 rp iw => wt H4 μ4 F4 v (e.trans e4) (fun l hl => (a4 l hl).trans (hμ l hl)) rp (iw.any (fun er z => by cases z) rfl)
              | n u => cases hx; exact fun H4 μ4 F4 v e4 a4 rp iw => wt H4 μ4 F4 v (e.trans e4) (fun l hl => (a4 l hl).trans (hμ l hl)) rp (iw.any (fun er z => by cases z) rfl)
            | exc er' => cases hx
end
section
variable {X : Cx} {σ : L2.St} {H : Hp} {μ : Nat → Addr} {ρ : Env} {F F1 : Hp} {G G1 G' : Cs} {e a b c o : Expr} {ma mb mc : Env → T Rv} {pins : List (Addr × Obj)} {s : Shared} {τ : Tb} {q : Bool} {n : Nat} {pos p : Pos} {r : Except Err Rv} {R : VK} {x f : Str}
/-- o.f, a field; an exception's attribute -/
theorem wx_attK (kn : Kn τ X.K X.mg) (ho : Wx X o ma) (la : ∀ ρ, Lc (ma ρ)) (hf : f ∈ τ.fd) (hab : attributeBase o f X.env (eval o X.env) = eval o X.env) :
    Wx X (.Attribute o f pos) (fun ρ => T.bind (T.bind (ma ρ) fin) fun w => eAtt (hd τ.pg q n) w f) := by
  refine ⟨fun pins s σ H R I ht => ?_⟩
  obtain ⟨μ, ρ, F, G, r, G', A, hx, fe, k⟩ := ht
  refine attr_of hab (thn (ho.goF la I A hx fe) fun u1 s1 ⟨v1, H1, I1, r1, x, G1, F1, n1, h1, h2, h3, l1, h4, h5⟩ => ?_)
  unfold eAtt at h1
  split at h1
  · rename_i er
    split at h1
    · rename_i d hd
      cases h1
      exact exat_ok I1 h3.rep.sub h5 r1 hd fun v i => k _ rfl F1 H1 h2 h3.rep v i
    · cases h1
  · split at h1
    · rename_i C ns ds hs
      split at h1
      · rename_i d hd
        obtain ⟨hc, e1⟩ := askO_ok h1
        cases e1
        obtain ⟨a, dx, vs, rfl, ha, _, hi⟩ := h5.sees h3.rep hs
        cases (show u1 = Value.ref a from r1)
        obtain ⟨v, hv, hi2⟩ := optIs_some (hd ▸ fld_val (f := f) (ns := ns) hi)
        exact getattr_ok I1 ha (kn.cls C hc).cl (kn.fd C hc f hf) hv fun u' s2 I2 ru => ⟨v, H1, I2, ru, k _ rfl F1 H1 h2 h3.rep v hi2⟩
      · cases h1
    · cases h1
end
/-- a place where an exception is handled -/
structure Hok (c : Ck) (X : Cx) : Prop where
  kn : Kn c.τ X.K X.mg
  N : X.N = c.N
  sc : X.env.scope = c.sc
mutual
def chkHX (c : Ck) : L4.X → Expr → Bool
  | .con d, e => conB d e
  | .var i, e => match e with
    | .Name x _ => nmB c i x && (visB c x && (!(x == ("__debug__" : Str)) && !(x == ("__classdict__" : Str))))
    | _ => false
  | .att o f, e => match e with
    | .Attribute o' f' _ => decide (f = f') && (abB o' && (decide (f ∈ c.τ.fd) && chkHX c o o'))
    | _ => false
  | .lst as, e => match e with
    | .List es _ => chkHXs c as es
    | _ => false
  | .tup as, e => match e with
    | .Tuple es _ _ => chkHXs c as es
    | _ => false
  | _, _ => false
def chkHXs (c : Ck) : Xs → List Expr → Bool
  | .nil, es => es.isEmpty
  | .cons a r, es => match es with
    | e :: es => noSt e && (chkHX c a e && chkHXs c r es)
    | [] => false
  | .star _ _, _ => false
end
def chkHS (c : Ck) : S → Stmt → Bool
  | .ret e, st => match st with
    | .Return (some ex) _ => chkHX c e ex
    | _ => false
  | .retN, st => match st with
    | .Return none _ => true
    | _ => false
  | .cnt, st => match st with
    | .Continue _ => true
    | _ => false
  | .pas, st => match st with
    | .Pass _ => true
    | _ => false
  | _, _ => false
def chkHSs (c : Ck) : Ss → List Stmt → Bool
  | .nil, l => l.isEmpty
  | .cons s r, l => match l with
    | st :: sts => chkHS c s st && chkHSs c r sts
    | [] => false
section
variable {q : Bool} {n : Nat}
mutual
theorem okHX : ∀ (x : L4.X) (e : Expr) {c : Ck} {X : Cx}, chkHX c x e = true → Hok c X → Wx X e fun ρ => eX q (hd c.τ.pg q n) x ρ
  | .con d, e, c, X, h, C => con_ok h
  | .var i, e, c, X, h, C => by
    unfold chkHX at h
    split at h
    · rename_i x pp
      obtain ⟨h1, h⟩ := and2 h
      obtain ⟨h2, h⟩ := and2 h
      obtain ⟨h3, h4⟩ := and2 h
      have hv : Vis X.env.scope x := by
        unfold visB at h2
        rw [C.sc]
        split at h2
        · rename_i e; exact .inl e
        · rename_i e; exact .inr (.inl e)
        · rename_i e; exact .inr (.inr e)
        · cases h2
      exact wx_var (by rw [C.N]; exact of_decide_eq_true h1) hv (by simpa using h3) (by simpa using h4)
    · cases h
  | .att o f, e, c, X, h, C => by
    unfold chkHX at h
    split at h
    · obtain ⟨h1, h⟩ := and2 h
      obtain ⟨h2, h⟩ := and2 h
      obtain ⟨h3, h4⟩ := and2 h
      cases of_decide_eq_true h1
      exact wx_attK C.kn (okHX o _ h4 C) (fun ρ => lX q c.τ.pg n o ρ) (of_decide_eq_true h3) (ab_ok h2)
    · cases h
  | .lst as, e, c, X, h, C => by
    unfold chkHX at h
    split at h
    · exact wx_lst (okHDs as _ h C) (fun ρ => lcDs (lc_call _ q n) as ρ)
    · cases h
  | .tup as, e, c, X, h, C => by
    unfold chkHX at h
    split at h
    · exact wx_tup (okHDs as _ h C) (fun ρ => lcDs (lc_call _ q n) as ρ)
    · cases h
  | .glo _ _, _, _, _, h, _ => by cases h
  | .bin _ _ _, _, _, _, h, _ => by cases h
  | .neg _, _, _, _, h, _ => by cases h
  | .nt _, _, _, _, h, _ => by cases h
  | .and _ _, _, _, _, h, _ => by cases h
  | .or _ _, _, _, _, h, _ => by cases h
  | .cmp _ _ _, _, _, _, h, _ => by cases h
  | .cmp2 _ _ _ _ _, _, _, _, h, _ => by cases h
  | .ite _ _ _, _, _, _, h, _ => by cases h
  | .fn _ _, _, _, _, h, _ => by cases h
  | .fnk _ _ _ _, _, _, _, h, _ => by cases h
  | .mk _ _, _, _, _, h, _ => by cases h
  | .mkv _ _, _, _, _, h, _ => by cases h
  | .blt _ _, _, _, _, h, _ => by cases h
  | .isi _ _, _, _, _, h, _ => by cases h
  | .isi2 _ _ _, _, _, _, h, _ => by cases h
  | .met _ _ _, _, _, _, h, _ => by cases h
  | .prp _ _, _, _, _, h, _ => by cases h
  | .ix _ _, _, _, _, h, _ => by cases h
  | .slc _ _ _, _, _, _, h, _ => by cases h
  | .rev _, _, _, _, h, _ => by cases h
  | .dct _, _, _, _, h, _ => by cases h
  | .lc _ _, _, _, _, h, _ => by cases h
  | .dc _ _ _, _, _, _, h, _ => by cases h
  | .ls _ _, _, _, _, h, _ => by cases h
  | .fst _, _, _, _, h, _ => by cases h
theorem okHDs : ∀ (as : Xs) (es : List Expr) {c : Ck} {X : Cx}, chkHXs c as es = true → Hok c X → WxD X es fun ρ => eDs q (hd c.τ.pg q n) as ρ
  | .nil, es, c, X, h, C => by
    have : es = [] := List.isEmpty_iff.mp h
    subst this
    exact wxd_nil
  | .cons a r, es, c, X, h, C => by
    unfold chkHXs at h
    split at h
    · obtain ⟨h1, h⟩ := and2 h
      obtain ⟨h2, h3⟩ := and2 h
      exact wxd_cons (okHX a _ h2 C) (okHDs r _ h3 C) (fun ρ => lX q c.τ.pg n a ρ) (fun ρ => lcDs (lc_call _ q n) r ρ) (noSt_ok h1)
    · cases h
  | .star _ _, es, c, X, h, C => by cases h
end
theorem okHS : ∀ (s : S) (st : Stmt) {c : Ck} {X : Cx}, chkHS c s st = true → Hok c X → Ws X st fun b ρ G => eS q (hd c.τ.pg q n) b s ρ G := fun s st c X h C => by
  cases s with
  | ret e =>
    unfold chkHS at h
    dsimp only at h
    split at h
    · exact ws_ret (okHX e _ h C) (fun ρ => lX q c.τ.pg n e ρ)
    · cases h
  | retN =>
    unfold chkHS at h
    dsimp only at h
    split at h
    · exact ws_retN
    · cases h
  | cnt =>
    unfold chkHS at h
    dsimp only at h
    split at h
    · exact ws_cnt
    · cases h
  | pas =>
    unfold chkHS at h
    dsimp only at h
    split at h
    · exact ws_pas
    · cases h
  | _ => cases h
theorem okHSs : ∀ (s : Ss) (sts : List Stmt) {c : Ck} {X : Cx}, chkHSs c s sts = true → Hok c X → Wss X sts fun b ρ G => eSs q (hd c.τ.pg q n) b s ρ G
  | .nil, sts, c, X, h, C => by
    have : sts = [] := List.isEmpty_iff.mp h
    subst this
    exact wss_nil
  | .cons s r, sts, c, X, h, C => by
    unfold chkHSs at h
    split at h
    · obtain ⟨h1, h2⟩ := and2 h
      exact wss_cons (okHS s _ h1 C) (okHSs r _ h2 C) (fun b ρ G => gwS (lc_call _ q n) s b ρ G)
    · cases h
end
end L4

set_option Elab.async false
set_option linter.all false
set_option maxRecDepth 100000
set_option maxHeartbeats 4000000
/-! The check of statements, and that it holds. -/
namespace L4
open PySem PySem.Spec PyProof.Rows L2
/-- a place in a def's body -/
structure Sok (c : Ck) (q : Bool) (n : Nat) (X : Cx) : Prop where
  C : Cok c q n X
  kind : X.env.scope.kind = .function
  po : PassesOwn (model X.prog X.w) X.A X.env X.xe
  er : ∀ x ns, c.τ.er x = some ns → ErrR X.prog X.w X.K X.mg X.base x ns
  r2 : Room 2 X.A
  stk : X.stack = X.env :: X.outer
  frm : X.env.frame = some X.env.locals
def noComp (e : Expr) : Bool := match e with
  | .ListComp _ _ _ _ => false
  | .SetComp _ _ _ _ => false
  | .DictComp _ _ _ _ _ => false
  | _ => true
def swB (c : Ck) (x : Str) (p : Pos) (e : Expr) : Bool := (decide (c.sc.names.lookup x = some .local)) && ((p.line == e.pos.line) && (match e with
  | .ListComp _ _ s _ => !(s.names.any fun (n, k) => n == x && (k == .local || k == .cell))
  | .DictComp _ _ _ s _ => !(s.names.any fun (n, k) => n == x && (k == .local || k == .cell))
  | _ => false))
def isComp : L4.X → Bool
  | .lc _ _ => true
  | .dc _ _ _ => true
  | _ => false
def lcB (c : Ck) (x : Str) : Bool := decide (c.sc.names.lookup x = some .local)
def notAll (vs : List Expr) : Bool := !(vs.all (foldedForSure 8)) && !(vs.all (constantsAlone 8))
theorem ws_doc {X : Cx} {x : Str} {j : Nat} {pos pos' : Pos} : Ws X (.Expr (.Constant (.str x) j pos) pos') (fun _ ρ G => some (.nx, ρ, G)) := by
  refine ⟨fun pins s σ H D I h => ?_⟩
  obtain ⟨b, μ, ρ, F, G, ou, ρ1, G1, A, hb, hx, wt⟩ := h
  cases hx
  exact ps_doc.run pins s σ H D I (wt σ H μ F (Ex.refl _) (fun _ _ => rfl) A)
mutual
def chkS (c : Ck) : S → Stmt → Bool
  | .set i keep e, st => match st with
    | .Assign [.Name x p] ex pos => nmB c i x && (locB c x && (chkX c e ex && (noComp ex || (decide (c.sc.names.lookup x = some .cell) || (isComp e && swB c x p ex)))))
    | _ => false
  | .tups is e, st => match st with
    | .Assign [.Tuple es k p] ex pos => tgNames c is es && (noComp ex && ((match ex with | .Tuple _ _ _ => false | _ => true) && chkX c e ex))
    | _ => false
  | .par is ks es, st => match st with
    | .Assign [.Tuple [.Name x px, .Name y py] _ _] (.Tuple [a, b] _ _) _ => match is with
      | [i, j] => nmB c i x && (nmB c j y && (decide (i ≠ j) && (lcB c x && (lcB c y && ((py.line == px.line) && (!(x == y) && (notAll [a, b] && chkXs c es [a, b])))))))
      | _ => false
    | .Assign [.Tuple [.Name x px, .Name y py, .Name z pz] _ _] (.Tuple [a, b, d] _ _) _ => match is with
      | [i, j, l] => nmB c i x && (nmB c j y && (nmB c l z && (decide (i ≠ j) && (decide (i ≠ l) && (decide (j ≠ l) && (lcB c x && (lcB c y && (lcB c z && ((py.line == px.line) && ((pz.line == px.line) && (!(x == y) && (!(x == z) && (!(y == z) && (notAll [a, b, d] && chkXs c es [a, b, d]))))))))))))))
      | _ => false
    | _ => false
  | .sub o i e, st => match st with
    | .Assign [.Subscript o' i' p] ex pos => noSl i' && (noComp ex && (chkX c e ex && (chkX c o o' && chkX c i i')))
    | _ => false
  | .att o f e, st => match st with
    | .Assign [.Attribute o' f' p] ex pos => decide (f = f') && (decide (f ∈ c.τ.fd) && (noComp ex && (chkX c e ex && chkX c o o')))
    | _ => false
  | .aug _ _ _, _ => false
  | .ex e, st => match st with
    | .Expr ex pos => noComp ex && chkX c e ex
    | _ => false
  | .ite t a b, st => match st with
    | .If t' as bs _ => noIf t && (chkX c t t' && (chkSs c a as && chkSs c b bs))
    | _ => false
  | .while t a, st => match st with
    | .While t' as [] _ => noIf t && (chkX c t t' && chkSs c a as)
    | _ => false
  | .for tg it a, st => match st with
    | .For tg' it' as [] _ => tgB c tg tg' && (noSet it' && (chkIt c it tg' it' && chkSs c a as))
    | _ => false
  | .ret e, st => match st with
    | .Return (some ex) _ => chkX c e ex
    | _ => false
  | .retN, st => match st with
    | .Return none _ => true
    | _ => false
  | .rai C ns as, st => match st with
    | .Raise (some (.Call (.Name x _) es [] _)) none _ => decide (x = C) && (glB c x && (decide (c.τ.er C = some ns) && ((as.ne || ns.isEmpty) && chkXs c as es)))
    | _ => false
  | .try a hs, st => match hs, st with
    | .cons C io hb .nil, .Try body [.ExceptHandler (some (.Name x _)) nmo (b0 :: suite) _] [] [] _ => decide (x = C) && (glB c x && (c.τ.exn C && (chkSs c a body && (chkHSs c hb (b0 :: suite) && (match io, nmo with
      | some i, some nm => nmB c i nm && lcB c nm
      | none, none => true
      | _, _ => false)))))
    | _, _ => false
  | .brk, st => match st with
    | .Break _ => true
    | _ => false
  | .cnt, st => match st with
    | .Continue _ => true
    | _ => false
  | .pas, st => match st with
    | .Pass _ => true
    | .Expr (.Constant (.str _) _ _) _ => true
    | _ => false
def chkSs (c : Ck) : Ss → List Stmt → Bool
  | .nil, l => l.isEmpty
  | .cons s r, l => match l with
    | st :: sts => chkS c s st && chkSs c r sts
    | [] => false
end
section
variable {c : Ck} {q : Bool} {n : Nat} {X : Cx} {e : Expr} {x : Str} {p : Pos} {l : Nat}
theorem noSwap {t : Option Expr} (h : noComp e = true) : swapsWith e t l X.env = pure false := by
  cases e <;> first | rfl | cases h
theorem sub_asg {o i : Expr} {env : PySem.Env} (h : noSl i = true) (v : Value) : assign (.Subscript o i p) env v = (do
      let ov ← holding [v] (eval o env)
      let iv ← holding [v, ov] (eval i env)
      standAt p
      holding [v, ov, iv] (setItem ov iv v)
      release [v, ov, iv] []) := by
  cases i <;> first | rfl | cases h
theorem noSole {t : Expr} (h : noComp e = true) : swapsWithSole [t] e l X.env = pure false := noSwap h
theorem noStores {t : Expr} (ht : ∀ a b d, t ≠ .Tuple a b d) (hl : ∀ a b, t ≠ .List a b) : swappedStores [t] e X.env = pure none := by
  cases t <;> first | rfl | exact absurd rfl (ht _ _ _) | exact absurd rfl (hl _ _)
theorem noStores' {es : List Expr} {k : Nat} (h : (match e with | .Tuple _ _ _ => false | _ => true) = true) : swappedStores [.Tuple es k p] e X.env = pure none := by
  cases e <;> first | rfl | cases h
theorem swap_ok {i : Nat} (S : Sok c q n X) (h : swB c x p e = true) : X.env.scope.names.lookup x = some .local ∧ swapsWith e (some (.Name x p)) l X.env = pure true := by
  obtain ⟨h1, h⟩ := and2 h
  obtain ⟨h2, h3⟩ := and2 h
  have e1 : X.env.scope.names.lookup x = some .local := by rw [S.C.sc]; exact of_decide_eq_true h1
  have hb : X.env.blockKind = .function := by unfold PySem.Env.blockKind; rw [S.kind]; rfl
  have hk : X.env.kindOf x = some .local := e1
  refine ⟨e1, ?_⟩
  cases e with
  | ListComp elt gs sc pp =>
    unfold swapsWith
    simp only [hb, hk, h2]
    have h3 : (!(sc.names.any fun (n, k) => n == x && (k == .local || k == .cell))) = true := h3
    rw [h3]
    rfl
  | DictComp kx vx gs sc pp =>
    unfold swapsWith
    simp only [hb, hk, h2]
    have h3 : (!(sc.names.any fun (n, k) => n == x && (k == .local || k == .cell))) = true := h3
    rw [h3]
    rfl
  | _ => cases h3
theorem cellSwap (S : Sok c q n X) (h : c.sc.names.lookup x = some .cell) : swapsWith e (some (.Name x p)) l X.env = pure false := by
  have hk : X.env.kindOf x = some .cell := by show X.env.scope.names.lookup x = _; rw [S.C.sc]; exact h
  have hf : (some NameKind.cell == some NameKind.local) = false := by decide
  cases e with
  | ListComp elt gs sc pp => unfold swapsWith; simp only [hk, hf, Bool.and_false, Bool.false_and]
  | DictComp kx vx gs sc pp => unfold swapsWith; simp only [hk, hf, Bool.and_false, Bool.false_and]
  | SetComp elt gs sc pp => unfold swapsWith; simp only [hk, hf, Bool.and_false, Bool.false_and]
  | _ => rfl
theorem noSt_any {vs : List Expr} (h : vs.all noSt = true) : (vs.any fun | .Starred .. => true | _ => false) = false := by
  rw [List.any_eq_false]
  intro e he
  have := List.all_eq_true.mp h e he
  cases e <;> first | (intro z; cases z; done) | cases this
theorem swst2 {x y : Str} {px py pt pt2 : Pos} {kt k2 : Nat} {a b : Expr} (S : Sok c q n X) (h1 : lcB c x = true) (h2 : lcB c y = true) (h3 : (py.line == px.line) = true) (h4 : (!(x == y)) = true) (h5 : notAll [a, b] = true) (h6 : [a, b].all noSt = true) :
    swappedStores [.Tuple [.Name x px, .Name y py] kt pt] (.Tuple [a, b] k2 pt2) X.env = pure (some [x, y]) := by
  have hb : X.env.blockKind = .function := by unfold PySem.Env.blockKind; rw [S.kind]; rfl
  have kx : X.env.kindOf x = some .local := by show X.env.scope.names.lookup x = _; rw [S.C.sc]; exact of_decide_eq_true h1
  have ky : X.env.kindOf y = some .local := by show X.env.scope.names.lookup y = _; rw [S.C.sc]; exact of_decide_eq_true h2
  have hs := noSt_any h6
  obtain ⟨n1, n2⟩ := and2 h5
  have n1 : [a, b].all (foldedForSure 8) = false := by rwa [Bool.not_eq_true'] at n1
  have n2 : [a, b].all (constantsAlone 8) = false := by rwa [Bool.not_eq_true'] at n2
  have hxy : (x == y) = false := by simpa using h4
  have hyx : (y == x) = false := by rw [BEq.comm]; exact hxy
  have h3' : py.line = px.line := by simpa using h3
  unfold swappedStores
  simp only [hb]
  refine (if_neg (show ¬ (false = true) from Bool.false_ne_true)).trans ?_
  refine (if_neg ?_).trans ?_
  · refine fun z => ?_
    obtain ⟨e, he, hz⟩ := List.any_eq_true.mp z
    have := List.all_eq_true.mp h6 e he
    cases e <;> first | (cases hz; done) | cases this
  refine (if_neg ?_).trans ?_
  · simp [List.filterMap_cons, kx, ky, h3', List.eraseDups_cons, hxy, hyx, Expr.pos]
  refine (if_neg (by rw [n1]; exact Bool.false_ne_true)).trans ?_
  refine (if_neg (by rw [n2]; exact Bool.false_ne_true)).trans ?_
  simp [List.filterMap_cons, kx, ky, h3', Expr.pos]
theorem swst3 {x y z : Str} {px py pz pt pt2 : Pos} {kt k2 : Nat} {a b d : Expr} (S : Sok c q n X) (h1 : lcB c x = true) (h2 : lcB c y = true) (h2' : lcB c z = true) (h3 : (py.line == px.line) = true) (h3z : (pz.line == px.line) = true) (h4 : (!(x == y)) = true) (h4b : (!(x == z)) = true) (h4c : (!(y == z)) = true) (h5 : notAll [a, b, d] = true) (h6 : [a, b, d].all noSt = true) :
    swappedStores [.Tuple [.Name x px, .Name y py, .Name z pz] kt pt] (.Tuple [a, b, d] k2 pt2) X.env = pure (some [x, y, z]) := by
  have hb : X.env.blockKind = .function := by unfold PySem.Env.blockKind; rw [S.kind]; rfl
  have kx : X.env.kindOf x = some .local := by show X.env.scope.names.lookup x = _; rw [S.C.sc]; exact of_decide_eq_true h1
  have ky : X.env.kindOf y = some .local := by show X.env.scope.names.lookup y = _; rw [S.C.sc]; exact of_decide_eq_true h2
  have kz : X.env.kindOf z = some .local := by show X.env.scope.names.lookup z = _; rw [S.C.sc]; exact of_decide_eq_true h2'
  obtain ⟨n1, n2⟩ := and2 h5
  have n1 : [a, b, d].all (foldedForSure 8) = false := by rwa [Bool.not_eq_true'] at n1
  have n2 : [a, b, d].all (constantsAlone 8) = false := by rwa [Bool.not_eq_true'] at n2
  have hxy : (x == y) = false := by simpa using h4
  have hxz : (x == z) = false := by simpa using h4b
  have hyz : (y == z) = false := by simpa using h4c
  have hyx : (y == x) = false := by rw [BEq.comm]; exact hxy
  have hzx : (z == x) = false := by rw [BEq.comm]; exact hxz
  have hzy : (z == y) = false := by rw [BEq.comm]; exact hyz
  have h3' : py.line = px.line := by simpa using h3
  have h3z' : pz.line = px.line := by simpa using h3z
  unfold swappedStores
  simp only [hb]
  refine (if_neg (show ¬ (false = true) from Bool.false_ne_true)).trans ?_
  refine (if_neg ?_).trans ?_
  · refine fun w => ?_
    obtain ⟨e, he, hz⟩ := List.any_eq_true.mp w
    have := List.all_eq_true.mp h6 e he
    cases e <;> first | (cases hz; done) | cases this
  refine (if_neg ?_).trans ?_
  · simp [List.filterMap_cons, kx, ky, kz, h3', h3z', List.eraseDups_cons, hxy, hyx, hxz, hzx, hyz, hzy, Expr.pos]
  refine (if_neg (by rw [n1]; exact Bool.false_ne_true)).trans ?_
  refine (if_neg (by rw [n2]; exact Bool.false_ne_true)).trans ?_
  simp [List.filterMap_cons, kx, ky, kz, h3', h3z', Expr.pos]
/-- a comprehension set to a name -/
theorem ok_setC {i : Nat} {keep : Bool} {y : L4.X} {pos : Pos} (S : Sok c q n X) (hi : X.N[i]? = some x) (h : chkX c y e = true) (hc : isComp y = true) (hw : swB c x p e = true) : Ws X (.Assign [.Name x p] e pos) (fun b ρ G => lift (eX q (hd c.τ.pg q n) y ρ) ρ G fun w G1 => some (.nx, store b i keep w ρ G1)) := by
  have C := S.C
  have lc := fun ρ => lX q c.τ.pg n y ρ
  obtain ⟨l1, l2⟩ := swap_ok (i := i) (l := pos.line) S hw
  cases y with
  | lc x' cl =>
    unfold chkX at h
    split at h
    · rename_i elt gs scope pp
      obtain ⟨h1, h2⟩ := and2 h
      have he : InBlk X scope fun Y => Wx Y elt fun ρ => eX q (hd c.τ.pg q n) x' ρ := fun s H C0 cl0 fp => okX (c := c.blk scope) x' _ h2 (blk_ok C s H C0 cl0 fp)
      cases cl with
      | one vs t it co =>
        unfold chkCl at h1
        split at h1
        · obtain ⟨k1, h1⟩ := and2 h1
          obtain ⟨k2, h1⟩ := and2 h1
          obtain ⟨k3, h1⟩ := and2 h1
          obtain ⟨k4, h1⟩ := and2 h1
          obtain ⟨k5, k6⟩ := and2 h1
          have := ws_setLc (keep := keep) (own := ownOf c vs) (t := t) C.calm C.gd.nd hi l1 l2 (okIt it _ _ k5 C) (fun ρ => lcIt (lc_call _ q n) it ρ) (by rw [C.N, C.sc]; exact blkOk_by k1) (by rw [own_ix]; exact ix_ok k2) (fun s H C0 cl0 fp => tg_ok (blk_ok C s H C0 cl0 fp) k4)
            (fun s H C0 cl0 fp => okC (c := c.blk scope) co _ k6 (blk_ok C s H C0 cl0 fp)) (fun ρ => lcXt (lc_call _ q n) co ρ) he (fun ρ => lX q c.τ.pg n x' ρ) (fun v => noSet_ok k3) (by rw [own_ix]; exact lc)
          rw [own_ix] at this
          exact this
        · cases h1
      | two vs t it co vs1 t1 it1 co1 =>
        unfold chkCl at h1
        split at h1
        · obtain ⟨k1, h1⟩ := and2 h1
          obtain ⟨k2, h1⟩ := and2 h1
          obtain ⟨k3, h1⟩ := and2 h1
          obtain ⟨k4, h1⟩ := and2 h1
          obtain ⟨k5, h1⟩ := and2 h1
          obtain ⟨k6, h1⟩ := and2 h1
          obtain ⟨k7, h1⟩ := and2 h1
          obtain ⟨k8, h1⟩ := and2 h1
          obtain ⟨k9, h1⟩ := and2 h1
          obtain ⟨k10, h1⟩ := and2 h1
          obtain ⟨k11, k12⟩ := and2 h1
          have := ws_setLc2 (keep := keep) (own := ownOf c vs) (t := t) (t1 := t1) (vs1 := vs1) C.calm C.gd.nd hi l1 l2 (okIt it _ _ k5 C) (fun ρ => lcIt (lc_call _ q n) it ρ) (by rw [C.N, C.sc]; exact blkOk_by k1) (by rw [own_ix]; exact ix_ok k2) (fun s H C0 cl0 fp => tg_ok (blk_ok C s H C0 cl0 fp) k4)
            (fun s H C0 cl0 fp => okC (c := c.blk scope) co _ k6 (blk_ok C s H C0 cl0 fp)) (fun ρ => lcXt (lc_call _ q n) co ρ) (fun s H C0 cl0 fp => okIt (c := c.blk scope) it1 _ _ k11 (blk_ok C s H C0 cl0 fp)) (fun ρ => lcIt (lc_call _ q n) it1 ρ) (ix_ok k8)
            (by rw [own_ix]; exact fun i hi => of_decide_eq_true (List.all_eq_true.mp k7 i hi)) (fun s H C0 cl0 fp => tg_ok (blk_ok C s H C0 cl0 fp) k10) (fun s H C0 cl0 fp => okC (c := c.blk scope) co1 _ k12 (blk_ok C s H C0 cl0 fp)) (fun ρ => lcXt (lc_call _ q n) co1 ρ)
            he (fun ρ => lX q c.τ.pg n x' ρ) (fun v => noSet_ok k3) (fun env v => noSet_ok k9) (by rw [own_ix]; exact lc)
          rw [own_ix] at this
          exact this
        · cases h1
    · cases h
  | dc y' x' cl =>
    unfold chkX at h
    split at h
    · rename_i k v gs scope pp
      obtain ⟨h0, h⟩ := and2 h
      obtain ⟨h1, h⟩ := and2 h
      obtain ⟨h2, h3⟩ := and2 h
      have hk : InBlk X scope fun Y => Wx Y k fun ρ => eX q (hd c.τ.pg q n) y' ρ := fun s H C0 cl0 fp => okX (c := c.blk scope) y' _ h2 (blk_ok C s H C0 cl0 fp)
      have he : InBlk X scope fun Y => Wx Y v fun ρ => eX q (hd c.τ.pg q n) x' ρ := fun s H C0 cl0 fp => okX (c := c.blk scope) x' _ h3 (blk_ok C s H C0 cl0 fp)
      cases cl with
      | one vs t it co =>
        unfold chkCl at h1
        split at h1
        · obtain ⟨k1, h1⟩ := and2 h1
          obtain ⟨k2, h1⟩ := and2 h1
          obtain ⟨k3, h1⟩ := and2 h1
          obtain ⟨k4, h1⟩ := and2 h1
          obtain ⟨k5, k6⟩ := and2 h1
          have := ws_setDc (keep := keep) (own := ownOf c vs) (t := t) C.calm C.gd.nd hi l1 l2 (okIt it _ _ k5 C) (fun ρ => lcIt (lc_call _ q n) it ρ) (by rw [C.N, C.sc]; exact blkOk_by k1) (by rw [own_ix]; exact ix_ok k2) (fun s H C0 cl0 fp => tg_ok (blk_ok C s H C0 cl0 fp) k4)
            (fun s H C0 cl0 fp => okC (c := c.blk scope) co _ k6 (blk_ok C s H C0 cl0 fp)) (fun ρ => lcXt (lc_call _ q n) co ρ) hk (fun ρ => lX q c.τ.pg n y' ρ) he (fun ρ => lX q c.τ.pg n x' ρ) (fun v => noSet_ok k3) (by rw [own_ix]; exact lc)
          rw [own_ix] at this
          exact this
        · cases h1
      | two vs t it co vs1 t1 it1 co1 => cases h0
    · cases h
  | _ => cases hc
mutual
theorem okS : ∀ (s : S) (st : Stmt) {c : Ck} {X : Cx}, chkS c s st = true → Sok c q n X → Ws X st fun b ρ G => eS q (hd c.τ.pg q n) b s ρ G
  | .set i keep e, st, c, X, h, S => by
    unfold chkS at h
    split at h
    · obtain ⟨h1, h⟩ := and2 h
      obtain ⟨h2, h⟩ := and2 h
      obtain ⟨h3, h4⟩ := and2 h
      obtain ⟨l1, l2⟩ := loc_ok S.C h2
      rcases Bool.or_eq_true_iff.mp h4 with h5 | h5
      · cases keep with
        | false => exact ws_set0 S.C.gd.nd (nm_ok S.C h1) l1 l2 (okX e _ h3 S.C) (fun ρ => lX q c.τ.pg n e ρ) (noSwap h5)
        | true => exact ws_set1 S.C.gd.nd (nm_ok S.C h1) l1 l2 (okX e _ h3 S.C) (fun ρ => lX q c.τ.pg n e ρ) (noSwap h5)
      · rcases Bool.or_eq_true_iff.mp h5 with h5 | h5
        · cases keep with
          | false => exact ws_set0 S.C.gd.nd (nm_ok S.C h1) l1 l2 (okX e _ h3 S.C) (fun ρ => lX q c.τ.pg n e ρ) (cellSwap S (of_decide_eq_true h5))
          | true => exact ws_set1 S.C.gd.nd (nm_ok S.C h1) l1 l2 (okX e _ h3 S.C) (fun ρ => lX q c.τ.pg n e ρ) (cellSwap S (of_decide_eq_true h5))
        · obtain ⟨h6, h7⟩ := and2 h5
          exact ok_setC S (nm_ok S.C h1) h3 h6 h7
    · cases h
  | .tups is e, st, c, X, h, S => by
    unfold chkS at h
    split at h
    · obtain ⟨h1, h⟩ := and2 h
      obtain ⟨h2, h⟩ := and2 h
      obtain ⟨h3, h4⟩ := and2 h
      exact ws_tups (tg_ok S.C (t := .tup is) h1) (okX e _ h4 S.C) (fun ρ => lX q c.τ.pg n e ρ) (noSole h2) (noStores' h3) rfl
    · cases h
  | .par is ks es, st, c, X, h, S => by
    have lg : ∀ (ρ : Env) (G : Cs) r G', (parK ks es fun a => eX q (hd c.τ.pg q n) a ρ) G = some (r, G') → G.length ≤ G'.length := fun ρ G r G' e => gw_par (lc_call c.τ.pg q n) (fun x => lX q c.τ.pg n x ρ) ks es G r G' e
    unfold chkS at h
    split at h
    · split at h
      · obtain ⟨h1, h⟩ := and2 h
        obtain ⟨h2, h⟩ := and2 h
        obtain ⟨h3, h⟩ := and2 h
        obtain ⟨h4, h⟩ := and2 h
        obtain ⟨h5, h⟩ := and2 h
        obtain ⟨h6, h⟩ := and2 h
        obtain ⟨h7, h⟩ := and2 h
        obtain ⟨h8, h9⟩ := and2 h
        exact ws_par2 S.C.calm lg S.C.gd.nd (nm_ok S.C h1) (nm_ok S.C h2) (of_decide_eq_true h3) (by rw [S.C.sc]; exact of_decide_eq_true h4) (by rw [S.C.sc]; exact of_decide_eq_true h5) (okPs es ks _ h9 S.C) (swst2 S h4 h5 h6 h7 h8 (xs_noSt h9))
      · cases h
    · split at h
      · obtain ⟨h1, h⟩ := and2 h
        obtain ⟨h2, h⟩ := and2 h
        obtain ⟨h3, h⟩ := and2 h
        obtain ⟨h4, h⟩ := and2 h
        obtain ⟨h5, h⟩ := and2 h
        obtain ⟨h6, h⟩ := and2 h
        obtain ⟨h7, h⟩ := and2 h
        obtain ⟨h8, h⟩ := and2 h
        obtain ⟨h9, h⟩ := and2 h
        obtain ⟨h10, h⟩ := and2 h
        obtain ⟨h11, h⟩ := and2 h
        obtain ⟨h12, h⟩ := and2 h
        obtain ⟨h13, h⟩ := and2 h
        obtain ⟨h14, h⟩ := and2 h
        obtain ⟨h15, h16⟩ := and2 h
        exact ws_par3 S.C.calm lg S.C.gd.nd (nm_ok S.C h1) (nm_ok S.C h2) (nm_ok S.C h3) (of_decide_eq_true h4) (of_decide_eq_true h5) (of_decide_eq_true h6) (by rw [S.C.sc]; exact of_decide_eq_true h7) (by rw [S.C.sc]; exact of_decide_eq_true h8) (by rw [S.C.sc]; exact of_decide_eq_true h9) (okPs es ks _ h16 S.C) (swst3 S h7 h8 h9 h10 h11 h12 h13 h14 h15 (xs_noSt h16))
      · cases h
    · cases h
  | .sub o i e, st, c, X, h, S => by
    unfold chkS at h
    split at h
    · obtain ⟨h1, h⟩ := and2 h
      obtain ⟨h2, h⟩ := and2 h
      obtain ⟨h3, h⟩ := and2 h
      obtain ⟨h4, h5⟩ := and2 h
      have hu : X.A.units + 1 < cLine := by have := S.C.gd.hr.un; omega
      exact ws_sub hu (okX e _ h3 S.C) (okX o _ h4 S.C) (okX i _ h5 S.C) (fun ρ => lX q c.τ.pg n e ρ) (fun ρ => lX q c.τ.pg n o ρ) (fun ρ => lX q c.τ.pg n i ρ) (noSole h2) (noStores (fun _ _ _ z => by cases z) (fun _ _ z => by cases z)) rfl (sub_asg h1)
    · cases h
  | .att o f e, st, c, X, h, S => by
    unfold chkS at h
    split at h
    · obtain ⟨h1, h⟩ := and2 h
      obtain ⟨h2, h⟩ := and2 h
      obtain ⟨h3, h⟩ := and2 h
      obtain ⟨h4, h5⟩ := and2 h
      cases of_decide_eq_true h1
      exact ws_att S.C.gd (of_decide_eq_true h2) (okX e _ h4 S.C) (okX o _ h5 S.C) (fun ρ => lX q c.τ.pg n e ρ) (fun ρ => lX q c.τ.pg n o ρ) (noSwap h3)
    · cases h
  | .aug _ _ _, st, c, X, h, S => by cases h
  | .ex e, st, c, X, h, S => by
    unfold chkS at h
    split at h
    · obtain ⟨h1, h2⟩ := and2 h
      exact ws_ex (okX e _ h2 S.C) (fun ρ => lX q c.τ.pg n e ρ) (noSwap h1)
    · cases h
  | .ite t a b, st, c, X, h, S => by
    unfold chkS at h
    split at h
    · obtain ⟨h1, h⟩ := and2 h
      obtain ⟨h2, h⟩ := and2 h
      obtain ⟨h3, h4⟩ := and2 h
      exact ws_ite (okT t _ h2 h1 S.C _ (.inl rfl)) (fun ρ => .bind (lX q c.τ.pg n t ρ) Lc.asB) (okSs a _ h3 S) (okSs b _ h4 S)
    · cases h
  | .while t a, st, c, X, h, S => by
    unfold chkS at h
    split at h
    · obtain ⟨h1, h⟩ := and2 h
      obtain ⟨h2, h3⟩ := and2 h
      exact ws_while S.po (okT t _ h2 h1 S.C _ (.inl rfl)) (fun ρ => .bind (lX q c.τ.pg n t ρ) Lc.asB) (okSs a _ h3 S) (fun b ρ G => gwSs (lc_call _ q n) a b ρ G)
    · cases h
  | .for tg it a, st, c, X, h, S => by
    unfold chkS at h
    split at h
    · obtain ⟨h1, h⟩ := and2 h
      obtain ⟨h2, h⟩ := and2 h
      obtain ⟨h3, h4⟩ := and2 h
      exact ws_for S.po S.C.calm (okIt it _ _ h3 S.C) (fun ρ => lcIt (lc_call _ q n) it ρ) (tg_ok S.C h1) (okSs a _ h4 S) (fun b ρ G => gwSs (lc_call _ q n) a b ρ G) (fun v => noSet_ok h2)
    · cases h
  | .ret e, st, c, X, h, S => by
    unfold chkS at h
    split at h
    · exact ws_ret (okX e _ h S.C) (fun ρ => lX q c.τ.pg n e ρ)
    · cases h
  | .retN, st, c, X, h, S => by
    unfold chkS at h
    split at h
    · exact ws_retN
    · cases h
  | .rai C0 ns as, st, c, X, h, S => by
    unfold chkS at h
    split at h
    · obtain ⟨h1, h⟩ := and2 h
      obtain ⟨h2, h⟩ := and2 h
      obtain ⟨h3, h⟩ := and2 h
      obtain ⟨h4, h5⟩ := and2 h
      cases of_decide_eq_true h1
      obtain ⟨g1, g2⟩ := gl_ok S.C h2
      have hst := xs_noSt h5
      cases as with
      | nil =>
        have e1 : ns = [] := List.isEmpty_iff.mp ((Bool.or_eq_true_iff.mp h4).resolve_left (by intro z; cases z))
        subst e1
        have e2 := List.isEmpty_iff.mp (show List.isEmpty _ = true from h5)
        rw [e2]
        exact ws_rai0 S.C.calm (S.er _ _ (of_decide_eq_true h3)) S.r2 g1 g2
      | cons a0 r0 =>
        have hne := xs_ne h5 rfl
        obtain ⟨e0, es', rfl⟩ := List.exists_cons_of_ne_nil hne
        rw [List.all_cons, Bool.and_eq_true] at hst
        exact ws_raiN S.C.calm (S.er _ _ (of_decide_eq_true h3)) S.r2 (okDs _ _ (xs_ds h5) S.C) (fun ρ => lcDs (lc_call _ q n) _ ρ) g1 g2 (noSt_ok hst.1) (noSts_ok hst.2)
      | star a0 r0 => cases h5
    · cases h
  | .try a hs, st, c, X, h, S => by
    unfold chkS at h
    split at h
    · rename_i C io hb body x pp nmo b0 suite p1 p2
      obtain ⟨h1, h⟩ := and2 h
      obtain ⟨h2, h⟩ := and2 h
      obtain ⟨h3, h⟩ := and2 h
      obtain ⟨h4, h⟩ := and2 h
      obtain ⟨h5, h6⟩ := and2 h
      cases of_decide_eq_true h1
      obtain ⟨g1, g2⟩ := gl_ok S.C h2
      obtain ⟨cv, m1, m2⟩ := S.C.gd.kn.exm _ h3
      have e : (fun b ρ G => eS q (hd c.τ.pg q n) b (.try a (.cons C io hb .nil)) ρ G) = fun b ρ G => catchT io (c.τ.pg.exm C) (fun b ρ G => eSs q (hd c.τ.pg q n) b hb ρ G) b (eSs q (hd c.τ.pg q n) b a ρ G) := by
        funext b ρ G
        unfold eS
        cases eSs q (hd c.τ.pg q n) b a ρ G with
        | none => rfl
        | some z =>
          obtain ⟨o, ρ1, G1⟩ := z
          cases o with
          | exc er =>
            dsimp only
            unfold eHs catchT
            cases h0 : c.τ.pg.exm C er.cls with
            | none =>
              have h0' : (hd c.τ.pg q n).exm C er.cls = none := h0
              rw [h0']
              first | rfl | simp [h0]
            | some t =>
              have h0' : (hd c.τ.pg q n).exm C er.cls = some t := h0
              rw [h0']
              cases t
              · first
                  | (simp only [h0]; done)
                  | (simp only [h0]; rfl)
              · first
                  | (simp only [h0]; done)
                  | (simp only [h0]; cases io <;> rfl)
          | _ => rfl
      rw [e]
      have hbody : ∀ (pn : List (Addr × Obj)) (xe : Value → Shared → Prop), PassesOwn (model X.prog X.w) X.A X.env xe → Wss (X.tr pn xe) body fun b ρ G => eSs q (hd c.τ.pg q n) b a ρ G := fun pn xe po =>
        okSs a _ h4 ⟨⟨⟨S.C.gd.kn, S.C.gd.lv, S.C.gd.gd, S.C.gd.hr, S.C.gd.nd⟩, S.C.N, S.C.sc, S.C.fn, S.C.calm⟩, S.kind, po, S.er, S.r2, S.stk, S.frm⟩
      have hsuite : ∀ (a : Addr) (oe : Obj) (pn : List (Addr × Obj)), (∃ vs, oe.data = .fields vs) → Wss (X.suite a ((a, oe) :: pn)) (b0 :: suite) fun b ρ G => eSs q (hd c.τ.pg q n) b hb ρ G := fun a oe pn _ =>
        okHSs hb _ h5 ⟨S.C.gd.kn, S.C.N, S.C.sc⟩
      have gw : ∀ (b : Nat) (ρ : Env) (G : Cs), Gw (eSs q (hd c.τ.pg q n) b a ρ G) G.length := fun b ρ G => gwSs (lc_call c.τ.pg q n) a b ρ G
      cases io with
      | some i =>
        cases nmo with
        | some nm =>
          obtain ⟨k1, k2⟩ := and2 (show (nmB c i nm && lcB c nm) = true from h6)
          exact ws_try_as S.stk S.frm S.C.gd.nd (nm_ok S.C k1) (by show X.env.scope.names.lookup nm = _; rw [S.C.sc]; exact of_decide_eq_true k2) ⟨g1, g2, m1⟩ S.C.calm m2 hbody gw hsuite
        | none => cases h6
      | none =>
        cases nmo with
        | some nm => cases h6
        | none => exact ws_try_only S.stk S.frm ⟨g1, g2, m1⟩ S.C.calm m2 hbody gw hsuite
    · cases h
  | .brk, st, c, X, h, S => by
    unfold chkS at h
    split at h
    · exact ws_brk
    · cases h
  | .cnt, st, c, X, h, S => by
    unfold chkS at h
    split at h
    · exact ws_cnt
    · cases h
  | .pas, st, c, X, h, S => by
    unfold chkS at h
    split at h
    · exact ws_pas
    · exact ws_doc
    · cases h
theorem okSs : ∀ (s : Ss) (sts : List Stmt) {c : Ck} {X : Cx}, chkSs c s sts = true → Sok c q n X → Wss X sts fun b ρ G => eSs q (hd c.τ.pg q n) b s ρ G
  | .nil, sts, c, X, h, S => by
    have : sts = [] := List.isEmpty_iff.mp h
    subst this
    exact wss_nil
  | .cons s r, sts, c, X, h, S => by
    unfold chkSs at h
    split at h
    · obtain ⟨h1, h2⟩ := and2 h
      exact wss_cons (okS s _ h1 S) (okSs r _ h2 S) (fun b ρ G => gwS (lc_call _ q n) s b ρ G)
    · cases h
end
end
end L4

set_option Elab.async false
set_option linter.all false
set_option maxRecDepth 100000
set_option maxHeartbeats 4000000
/-! Every def keeps its promise. -/
namespace L4
open PySem PySem.Spec PyProof.Rows L2
/-- a def stands in the written part, its text is checked -/
structure DefR (K : PySem.W.Frag) (τ : Tb) (fi : Fi) (fd : Fd) : Prop where
  ex : ∃ (x qual : Str) (params : Arguments) (body : List Stmt) (scope : Scope) (dvs : List V) (kws : List (Str × V)) (f : FuncData) (N ps : List Str) (dv : List V) (ds : List Value),
    FunD K x qual params body scope dvs kws (adr K fi) f ∧ FnScope N ps scope ∧ ps.length = fd.np ∧ N.length = fd.n ∧ chkSs ⟨τ, N, scope, fun _ => true⟩ fd.body body = true ∧ Binds K f ps [] ∧ Binds K f ps ds ∧ Vals dv ds ∧ ∀ F, IsL K F fd.dfl dv
theorem pairedA_len {α β : Type} {R : α → β → Prop} : ∀ {xs : List α} {ys : List β}, Paired R xs ys → xs.length = ys.length
  | _, _, .nil => rfl
  | _, _, .cons _ t => by rw [List.length_cons, List.length_cons, pairedA_len t]
theorem pairedA_get {α β : Type} {R : α → β → Prop} : ∀ {xs : List α} {ys : List β} {i : Nat} {x : α}, Paired R xs ys → xs[i]? = some x → ∃ y, ys[i]? = some y ∧ R x y
  | _, _, _, _, .nil, h => by simp at h
  | _, _, 0, _, .cons r t, h => by
    simp at h; subst h
    exact ⟨_, rfl, r⟩
  | _, _, i + 1, _, .cons r t, h => by
    simp at h
    obtain ⟨y, h1, h2⟩ := pairedA_get t h
    exact ⟨y, by simpa using h1, h2⟩
section
variable {P : Program} {w : World} {K : PySem.W.Frag} {mg : Str → Option Value} {base : Heap} {τ : Tb} {q : Bool}
theorem env_start {X : Cx} {μ : Nat → Addr} {F : Hp} {G : Cs} {fd : Fd} {ws : List Rv} {vs : List V} {N : List Str} (h : Paired (IsA X.K μ F G) ws vs) (hl : ws.length = fd.np) (hN : N.length = fd.n) : EnvOk X μ F G (start fd ws) (L2.start N vs) := by
  have lw := pairedA_len h
  refine ⟨?_, fun i w e => ?_⟩
  · unfold L4.start L2.start
    rw [List.length_append, List.length_append, List.length_map, List.length_map, List.length_replicate, List.length_replicate, hN, lw]
  · unfold L4.start at e
    have hi : i < ws.length := by
      by_cases hi : i < ws.length
      · exact hi
      · rw [List.getElem?_append_right (by rw [List.length_map]; omega)] at e
        rw [List.getElem?_replicate] at e
        split at e <;> cases e
    rw [List.getElem?_append_left (by rw [List.length_map]; exact hi), List.getElem?_map] at e
    obtain ⟨w', e1, e2⟩ := Option.map_eq_some_iff.mp e
    cases e2
    obtain ⟨v, e3, e4⟩ := pairedA_get h e1
    refine ⟨v, ?_, ?_⟩
    · unfold L2.start
      rw [List.getElem?_append_left (by rw [List.length_map, ← lw]; exact hi), List.getElem?_map, e3]
      rfl
    · cases w with
      | d u => exact e4
      | r l => exact e4
      | n u => exact e4.elim
      | ex er => exact e4.elim
theorem handed_ok {X : Cx} {μ μ' : Nat → Addr} {F' H' : Hp} {G G1 : Cs} {w w' : Rv} {v : V} (rp : Rep X.K μ' F' G1 H') (i : IsW X μ' F' G1 H' w v) (hb : G.length ≤ G1.length) (hμ : ∀ l, l < G.length → μ' l = μ l) (h : handed G.length G1 w = some w') : IsV X.K μ F' (G1.take G.length) H' w' v := by
  have lt : (G1.take G.length).length = G.length := by rw [List.length_take]; omega
  cases w with
  | d u => cases h; exact i
  | n u =>
    cases h
    obtain ⟨a, e1, e2, e3, e4⟩ := (show ∃ a, v = .ref a ∧ F' a = none ∧ (∀ l, l < G1.length → μ' l ≠ a) ∧ Ob X.K F' H' a u from i)
    exact ⟨a, e1, e2, fun l hl => by rw [lt] at hl; rw [← hμ l hl]; exact e3 l (by omega), e4⟩
  | r l =>
    obtain ⟨i1, i2⟩ := (show l < G1.length ∧ v = .ref (μ' l) from i)
    have h : (if l < G.length then some (Rv.r l) else (G1[l]?).map Rv.n) = some w' := h
    by_cases hl : l < G.length
    · rw [if_pos hl] at h
      cases h
      exact ⟨by rw [lt]; exact hl, by rw [← hμ l hl]; exact i2⟩
    · rw [if_neg hl] at h
      obtain ⟨u, e1, rfl⟩ := Option.map_eq_some_iff.mp h
      obtain ⟨o1, o2⟩ := rp.at_ l u e1
      refine ⟨μ' l, i2, o1, fun k hk z => ?_, o2⟩
      rw [lt] at hk
      rw [← hμ k hk] at z
      have := rp.inj k l (by omega) i1 z
      omega
  | ex er => cases h
/-- every def, n calls deep -/
theorem lv_all (kn : Kn τ K mg) (he : ∀ x ns, τ.er x = some ns → ErrR P w K mg base x ns) (hd0 : ∀ fi fd, τ.pg.fn fi = some fd → DefR K τ fi fd) : ∀ n, Lv τ.pg q P w K mg base n
  | 0 => trivial
  | n + 1 => fun fi fd hf => by
    have ih := lv_all kn he hd0 n
    obtain ⟨x, qual, params, body, scope, dvs, kws, f, N, ps, dv, ds, Fd, S, hps, hNn, hck, b1, b2, hdv, hdl⟩ := (hd0 fi fd hf).ex
    have len : ∀ vs H Q E, spR τ.pg q n fd K vs H Q E → vs.length = ps.length := fun vs H Q E hsp => by
      obtain ⟨μ, F, G, ws, r, G', rp, ha, hl, _⟩ := hsp
      rw [← pairedA_len ha, hl, hps]
    refine ⟨f, ps, dv, ds, hps, ⟨len, fun A outer s H args us vs R Z hG hr e0 hb r hsp => ?_⟩, b1, b2, hdv, hdl⟩
    have hlen := len _ _ _ _ hsp
    obtain ⟨oc, od, dV, kV, doc, pm, an, cdv, ct, osl, rfl, lk, hcd, _, _⟩ := Fd.ex
    have KX : K.In s.heap := e0.mod.kin.keeps fun b o e => (e0.bs b o e).1
    have lim : s.heap.NoLimit := e0.mod.nolimit.keeps fun b o e => (e0.bs b o e).1
    refine codeAny_call_function hr.depth (KX _ _ lk) rfl S.co S.gen rfl (PySem.W.codeRec_of KX hcd) (hb _ _ _ _ ?_)
    refine wpAny_newFunctionEnv_cells S.kind (fun y hy => ?_) fun env he s1 z => ?_
    · rcases S.par y.1 (List.of_mem_zip (show (y.1, y.2) ∈ ps.zip us from hy)).1 with q | q
      · exact .inl q
      · exact .inr ⟨q, PySem.W.cellsFrom_some _ _ _ (.inl q)⟩
    · subst he
      refine ⟨lim.keeps z.toInCall.keep, codeAny_func ?_⟩
      have I : Inv (cxOf (L2.CX P w) P w K mg base N qual scope (adr K fi) cdv A outer s H Z) [] (L2.start N vs) H s1 := inv_start S hr.hd e0 hlen r z
      obtain ⟨μ, F, G, ws, r0, G', rp, ha, hl, hx, ko, ke⟩ := hsp
      have hr2 : Room (2 * n + 2) (A.deeper (envOfC qual scope s.heap.objs.size (adr K fi) cdv)) := hr.deeper _
      have sok : Sok ⟨τ, N, scope, fun _ => true⟩ q n (cxOf (L2.CX P w) P w K mg base N qual scope (adr K fi) cdv A outer s H Z) :=
        ⟨⟨⟨kn, ih, hG, hr2, S.nd⟩, rfl, rfl, fun _ _ => rfl, rfl⟩, S.kind, passes_of rfl, he, hr2.mono (by omega), rfl, rfl⟩
      have W := okSs (q := q) (n := n) fd.body body hck sok
      unfold runF at hx
      have ht : tS (cxOf (L2.CX P w) P w K mg base N qual scope (adr K fi) cdv A outer s H Z) (fun b ρ G => eSs q (hd τ.pg q n) b fd.body ρ G) { nx := fun _ H' => R .non H', rt := R } (L2.start N vs) H := by
        cases hs : eSs q (hd τ.pg q n) G.length fd.body (L4.start fd ws) G with
        | none => rw [hs] at hx; cases hx
        | some p =>
          obtain ⟨o, ρ1, G1⟩ := p
          rw [hs] at hx
          have lg : G.length ≤ G1.length := gwSs (lc_call _ q n) fd.body _ _ _ _ _ _ hs
          refine ⟨G.length, μ, L4.start fd ws, F, G, o, ρ1, G1, ⟨env_start ha hl hNn, rp⟩, Nat.le_refl _, hs, ?_⟩
          cases o with
          | nx => cases hx; exact fun σ' H' μ' F' e hμ A' => ko _ rfl F' H' .non e (A'.rep.take hμ) rfl
          | ret w =>
            have hx : (match handed G.length G1 w with
              | some w => some (Except.ok w, G1.take G.length)
              | none => none) = some (r0, G') := hx
            cases hh : handed G.length G1 w with
            | none => rw [hh] at hx; cases hx
            | some w' =>
              rw [hh] at hx
              cases hx
              exact fun H' μ' F' v e hμ rp' i => ko w' rfl F' H' v e (rp'.take hμ) (handed_ok rp' i lg hμ hh)
          | exc er => cases hx; exact ⟨fun c d _ H => Z c d H, takes_of rfl rfl rfl rfl, fun σ' H' μ' F' cls d e hμ A' ie => ke er rfl F' H' cls d e (A'.rep.take hμ) ie⟩
          | brk => cases hx
          | cnt => cases hx
      refine wpAny_mono (W.run [] s1 _ H _ I ht) (fun fl s' hs => ?_) fun e s' hs => hs
      have fin : ∀ {σ' : L2.St} {H' : Hp} {v : V} {u : Value}, Inv (cxOf (L2.CX P w) P w K mg base N qual scope (adr K fi) cdv A outer s H Z) [] σ' H' s' → RelV v u → R v H' → L2.CE outer P w H s R u s' :=
        fun {σ' H' v u} J rv q => ⟨v, H', J.os, J.bare, J.base, J.hok, rv, q⟩
      cases fl with
      | ret u =>
        obtain ⟨v, σ', H', J, rv, q⟩ := hs
        exact fin J rv q
      | next =>
        obtain ⟨σ', H', J, q⟩ := hs
        exact fin (v := V.non) (u := Value.none) J rfl q
      | brk =>
        obtain ⟨_, _, _, q⟩ := hs
        exact False.elim q
      | cont =>
        obtain ⟨_, _, _, q⟩ := hs
        exact False.elim q
end
end L4

set_option Elab.async false
set_option linter.all false
set_option maxRecDepth 100000
set_option maxHeartbeats 4000000
/-! The law's end. -/
namespace L4
open PySem PySem.Spec PyProof.Rows L2
/-- the call of the law at the heap behind the top, nothing but the script tracked -/
theorem law_run {P : Program} {w : World} {K : PySem.W.Frag} {mg mb : Str → Option Value} {a : Addr} {fi : Fi} {s₁ : Shared} {vs : List Value} {ns : List Int} {pg : Pg} {q : Bool} {n : Nat} {fL : Fd} {Gz : Cs}
    (KX : K.In s₁.heap) (hns : s₁.heap.Ns mainGlobals mg) (hb : s₁.heap.Ns builtinsNs mb) (hbb : ∀ x : Str, x ≠ "__name__" → mb x = bootBuiltins x) (hlim : s₁.heap.NoLimit) (hg : s₁.gens = #[])
    (ha : s₁.heap.get? a = some { cls := .type "list", data := .seq vs.toArray }) (hi : IntsAre vs ns) (hl : ns.length ≤ sizeLine) (hr : Room (2 * n + 3) callerA)
    (Fo : ∀ base : Heap, K.In base → base.Ns mainGlobals mg → Lv pg q P w K mg base (n + 1)) (hf : pg.fn fi = some fL)
    (hnp : fL.np = 1) (hm : runF q (hd pg q n) fL [.d (.scr ns)] [] = some (.ok (.d (.bool true)), Gz)) :
    codeAny (model P w) callerA (.call (.ref (adr K fi)) ⟨[.ref a], []⟩) (fun r s' => r = .ok (.ret (.bool true)) ∧ OldK s₁.heap s'.heap ∧ s'.os = s₁.os ∧ AllBare s'.gens) s₁ := by
  have rv := vals_ints hi
  have lenV := hi.length
  obtain ⟨H, hH, hO, hS, hok, hA, hK⟩ : ∃ H : Hp, True ∧ Only H ∧ SqL K H a (ns.map V.int) ∧ HOk P w H s₁.heap ∧ (∀ b, H b ≠ none → b = a) ∧ (H a ≠ none → K.lookup a = none) := by
    cases hk : K.lookup a with
    | some o =>
      have e := KX a o hk
      rw [ha] at e
      cases e
      exact ⟨fun _ => none, trivial, fun _ => .inl rfl, .inr ⟨_, vs.toArray, _, hk, rfl, rfl, rfl, by rw [List.size_toArray, lenV]; exact hl, by simpa using rv⟩, fun b u z => (by cases (show (none : Option HO) = some u from z)), fun b z => absurd rfl z, fun z => absurd rfl z⟩
    | none =>
      refine ⟨fun b => if b = a then some (.frz { cls := .type "list", data := .seq vs.toArray } (.lst (ns.map V.int))) else none, trivial, fun b => ?_, .inl (.inr ⟨{ cls := .type "list", data := .seq vs.toArray }, if_pos rfl⟩), fun b u z => ?_, fun b z => ?_, fun _ => rfl⟩
      · by_cases hb : b = a
        · exact .inr ⟨_, _, if_pos hb⟩
        · exact .inl (if_neg hb)
      · by_cases hb : b = a
        · cases (if_pos hb).symm.trans z
          subst hb
          exact ⟨ha, by rw [List.length_map]; exact hl, vs, _, rv, ha⟩
        · cases (if_neg hb).symm.trans z
      · by_cases hb : b = a
        · exact hb
        · exact absurd (if_neg hb) z
  have base_of : ∀ {b : Addr} {o : Obj}, s₁.heap.get? b = some o → H b = none → (hidT s₁.heap H).get? b = some o := fun e n => hidT_get e n
  have noA : ∀ {b : Addr} {o : Obj} {es : Array DictEntry} {ep : Nat}, s₁.heap.get? b = some o → o.data = .dict es ep → H b = none := fun {b o es ep} e d => by
    cases q : H b with
    | none => rfl
    | some u =>
      have e' : b = a := hA b (by rw [q]; simp)
      subst e'
      rw [ha] at e
      cases e
      cases (show Data.seq vs.toArray _ = Data.dict es ep from d)
  have nsK : ∀ {b : Addr} {m : Str → Option Value}, s₁.heap.Ns b m → (hidT s₁.heap H).Ns b m := fun {b m} ⟨o, es, ep, e, d, r⟩ => ⟨o, es, ep, base_of e (noA e d), d, r⟩
  have hKb : K.In (hidT s₁.heap H) := fun b o e => base_of (KX b o e) (by
    cases q : H b with
    | none => rfl
    | some u =>
      have e' : b = a := hA b (by rw [q]; simp)
      subst e'
      rw [hK (by rw [q]; simp)] at e
      cases e)
  have hM : Mod K mg (hidT s₁.heap H) := ⟨hKb, nsK hns, ⟨mb, nsK hb, hbb⟩, let ⟨mc, h1, h2⟩ := hlim; ⟨mc, nsK h1, h2⟩⟩
  have e0 : Env0 P w K mg (hidT s₁.heap H) callerA [] s₁ H := ⟨rfl, hM, fun b o e => of_hidT e, Nat.le_of_eq (hidT_size _ _), trivial, fun b hb => absurd (show b ∈ ([] : List Addr) from hb) (by simp), hok, .of_eq hg⟩
  obtain ⟨f, ps, dvs, ds, hps, Fn, b1, _, _, _⟩ := Fo _ hKb (nsK hns) fi fL hf
  have b := b1 s₁ [.ref a] KX (by rw [hps, hnp]; rfl)
  have sp : spR pg q n fL K [.ref a] H (fun v _ => v = .bl true) (fun _ _ _ => False) :=
    ⟨fun _ => 0, H, [], [.d (.scr ns)], _, _, ⟨Ex.refl H, fun l d e => by simp at e, fun l l' h => by simp at h⟩, .cons ⟨a, rfl, hS⟩ .nil, by rw [hnp]; rfl, hm, fun w e F' H' v e1 rp i => by cases e; exact i, fun er e => by cases e⟩
  refine codeAny_mono (Fn.run callerA [] s₁ H ⟨[.ref a], []⟩ _ [.ref a] _ _ (fun _ => rfl) hr e0 b (.cons rfl .nil) sp) fun r s' h => ?_
  cases r with
  | error e =>
    obtain ⟨_, _, _, _, _, _, _, _, _, _, _, _, z⟩ := h
    exact z.elim
  | ok fl =>
    cases fl with
    | next => exact False.elim h
    | brk => exact False.elim h
    | cont => exact False.elim h
    | ret u =>
      obtain ⟨v, H', os, bare, un, hok', r', q⟩ := h
      have q' : v = .bl true := q
      subst q'
      obtain rfl : u = Value.bool true := r'
      refine ⟨rfl, OldK.of_keep fun b o e => ?_, os, bare⟩
      cases q : H b with
      | none => exact un.keep b o e q (by intro z; exact absurd (show b ∈ ([] : List Addr) from z) (by simp)) (by simp)
      | some u =>
        rcases hO b with z | ⟨ob, xs, z⟩
        · rw [q] at z; cases z
        · have z2 := un.frzs b ob _ z
          obtain ⟨e1, _⟩ := hok b _ z
          obtain ⟨e2, _⟩ := hok' b _ z2
          rw [e] at e1; cases e1
          exact e2
/-- a law: F gives the written part, where the defs keep their promises -/
theorem walk_Q {l : PySem.W.OpenLaw} {n : Nat} {q : Program} {loose : List Str} {XP : (Str → Option Value) → Heap → Prop} {YP : World → Heap → Prop} {d : DefRec} {pg : Pg} {qq : Bool} {m : Nat} {fi : Fi} {fL : Fd}
    (hn : l.most = some n) (hn2 : n ≤ sizeLine) (hdf : d.params.defaults = []) (hr : Room (2 * m + 3) callerA)
    (Fo : ∀ (w : World) (mg : Str → Option Value) (fa : Addr) (h : Heap), YP w h → h.Ns mainGlobals mg → mg d.name = some (.ref fa) →
      ∃ K : PySem.W.Frag, K.In h ∧ fa = adr K fi ∧ ∀ base : Heap, K.In base → base.Ns mainGlobals mg → Lv pg qq l.prog w K mg base (m + 1))
    (hf : pg.fn fi = some fL) (hnp : fL.np = 1) (hm : ∀ ns : List Int, ns.length ≤ n → ∃ Gz, runF qq (hd pg qq m) fL [.d (.scr ns)] [] = some (.ok (.d (.bool true)), Gz)) :
    PySem.W.WalkO q loose XP YP l.row.toRowW d [] (fun f vs => PySem.call f vs) := by
  refine Att.attach_call hn hdf fun w s₀ s₁ mg mb fa o pm cd doc a vs ns G Y ho hd hcd hmg hobj hints hlen hg => ?_
  obtain ⟨K, KX, rfl, hF⟩ := Fo w mg fa _ Y G.T.g hmg
  obtain ⟨Gz, hmz⟩ := hm ns hlen
  exact law_run KX G.T.g G.T.b G.T.builtins G.T.nolimit hg hobj hints (Nat.le_trans hlen hn2) hr hF hf hnp hmz
end L4

set_option Elab.async false
set_option linter.all false
set_option maxRecDepth 100000
set_option maxHeartbeats 4000000
/-! What the top has left: all that is asked of the text, by one run. -/
namespace L4
open PySem PySem.Spec PyProof.Rows L2 He
/-! ### defs -/
structure Df where
  fi : Fi
  name : Str
  qual : Str
  params : Arguments
  body : List Stmt
  scope : Scope
  dfl : List Dv := []
def Df.val (d : Df) : FnW := some (d.name, d.qual, d.params, .stmts d.body, d.scope, mainGlobals, [], builtinsNs)
def dfW (K : PySem.W.Frag) (a : Addr) : FnW := match K.lookup a with
  | some ⟨_, _, .func fd, _⟩ => some (fd.name, fd.qualname, fd.params, fd.body, fd.scope, fd.globals, fd.closure, fd.builtins)
  | _ => none
def Df.dvs (K : PySem.W.Frag) (d : Df) : List V := d.dfl.map (Dv.v K)
def Df.ok (K : PySem.W.Frag) (d : Df) : Bool := PySem.W.keepIn K (.ref (adr K d.fi)) && (match K.lookup (adr K d.fi) with
  | some ⟨_, _, .func fd, _⟩ => PySem.W.codeIn K fd.code d.qual && dflB K fd.defaults (d.dvs K)
  | _ => false)
theorem Df.funD {K : PySem.W.Frag} {d : Df} (e : dfW K (adr K d.fi) = d.val) (c : d.ok K = true) : ∃ fd, FunD K d.name d.qual d.params d.body d.scope (d.dvs K) [] (adr K d.fi) fd := by
  obtain ⟨kp, c2⟩ := ba c
  unfold dfW at e
  cases q : K.lookup (adr K d.fi) with
  | none =>
    rw [q] at c2
    cases c2
  | some o =>
    obtain ⟨oc, od, dt, osl⟩ := o
    rw [q] at c2 e
    cases dt with
    | func fd =>
      obtain ⟨n1, n2, n3, n4, n5, n6, n7, n8, n9, n10, n11, n12, n13, n14, n15⟩ := fd
      have e2 : (some (n1, n2, n3, n4, n5, n6, n7, n15) : FnW) = some (d.name, d.qual, d.params, .stmts d.body, d.scope, mainGlobals, [], builtinsNs) := e
      simp only [Option.some.injEq, Prod.mk.injEq] at e2
      obtain ⟨h1, h2, h3, h4, h5, h6, h7, h8⟩ := e2
      subst h1 h2 h3 h4 h5 h6 h7 h8
      have c3 : (PySem.W.codeIn K n13 d.qual && dflB K n8 (d.dvs K)) = true := c2
      obtain ⟨k1, k2⟩ := ba c3
      exact ⟨_, ⟨oc, od, n8, n9, n10, n11, n12, n13, n14, osl, rfl, q, k1, dflB_ok k2, .inl rfl⟩, kp⟩
    | _ => cases c2
/-! ### the law's source -/
structure Sou where
  own : List Str
  base : Str
  ers : List (Str × List Str)
  gls : List (Str × D)
  frs : List Str
  fns : List (Fi × Fd)
  fds : List Str
  exn : List (Str × Bool)
  exm : List ((Str × Str) × Bool)
def Sou.pg (S : Sou) : Pg := { fn := fun fi => S.fns.lookup fi, cls := fun C => decide (C ∈ S.own), exm := fun C D => S.exm.lookup (C, D) }
def Sou.tb (S : Sou) : Tb := { pg := S.pg, gl := fun x => S.gls.lookup x, fr := fun x => decide (x ∈ S.frs), er := fun x => S.ers.lookup x, fd := S.fds, exn := fun x => (S.exn.lookup x).isSome }
theorem lookup_in {α β : Type} [BEq α] [LawfulBEq α] {a : α} {b : β} : ∀ {l : List (α × β)}, l.lookup a = some b → (a, b) ∈ l
  | [], h => by cases h
  | (x, y) :: r, h => by
    rw [List.lookup_cons] at h
    cases q : a == x with
    | true =>
      rw [q] at h
      cases h
      rw [beq_iff_eq.mp q]
      exact List.mem_cons_self
    | false =>
      rw [q] at h
      exact List.mem_cons_of_mem _ (lookup_in h)
abbrev Fg := PySem.W.Frag
def gloF (K : Fg) (x : Str) : Bool := eqO (PySem.W.nsIn K mainGlobals x) (some (some (.ref (ga K x))))
def freeB (K : Fg) (x : Str) : Bool := eqO (PySem.W.nsIn K mainGlobals x) (some none)
def keepB (K : Fg) (x : Str) : Bool := PySem.W.keepIn K (.ref (ga K x))
def dV (K : Fg) : D → Option V
  | .non => some .non
  | .bool b => some (.bl b)
  | .int i => some (.int i)
  | .str s => some (.str s)
  | .ty n => some (.ty n)
  | .cl C => some (.ref (ga K C))
  | _ => none
theorem dV_is {K : Fg} {d : D} {v : V} (h : dV K d = some v) (F : Hp) : Is K F d v := by
  cases d <;> cases h <;> rfl
def glF (K : Fg) (p : Str × D) : Bool := match dV K p.2, PySem.W.nsIn K mainGlobals p.1 with
  | some v, some (some u) => relB v u
  | _, _ => false
def propB (K : Fg) (C f : Str) : Bool := eqO (PySem.W.findIn K (.ref (ga K C)) f) (some (some (.ref (ma K (ga K C) f)))) && (eqO (PySem.W.specialIn K (.ref (ma K (ga K C) f)) "__get__") (some (some (.builtin "property.__get__"))) &&
  (decide (PySem.W.takesIn K (.ref (ma K (ga K C) f)) = some true) && (match PySem.W.recIn K (ma K (ga K C) f) "property" with
    | some (.ref _ :: _) => true
    | _ => false)))
def cmethB (K : Fg) (C m : Str) : Bool := (match PySem.W.findCls K (.ref (ga K C)) (.type "type") m with
    | some (.get (.builtin g) (.ref p) .none (.ref D)) => decide (g = "classmethod.__get__") && (decide (p = ma K (ga K C) m) && decide (D = ga K C))
    | _ => false) && ((match PySem.W.recIn K (ma K (ga K C) m) "classmethod" with
    | some (.ref _ :: _) => true
    | _ => false) && PySem.W.fnIn K (recFn K C "classmethod" m))
def readB (K : Fg) (C : Str) : Bool := PySem.W.readsIn K (ga K C) (.type "type") && eqO (PySem.W.specialIn K (.ref (ga K C)) "__getattribute__") (some (some (.builtin "type.__getattribute__")))
def initB (K : Fg) (C : Str) : Bool := match PySem.W.findCls K (.ref (ga K C)) (.type "type") "__init__" with
    | some (.val (.builtin i)) => decide (i = "ValueError.__init__")
    | _ => false
def fnB (K : Fg) (p : Fi × Fd) : Bool := match p.1 with
  | .g x => gloF K x && keepB K x
  | .k C => gloF K C && (keepB K C && ((Fa.mkr C).ok K && decide (1 ≤ p.2.np)))
  | .m C x => (Fa.meth C x).ok K
  | .p C x => propB K C x
  | .c C x => cmethB K C x && (readB K C && decide (1 ≤ p.2.np))
def clsB (K : Fg) (C : Str) : Bool := (Fa.cls C).ok K && (PySem.W.selfFirst K (ga K C) && (tags.all (fun t => decide (PySem.W.subIn K (.type t) (.ref (ga K C)) = some false)) &&
  (eqO (PySem.W.findIn K (.ref (ga K C)) "__class__") (some (some (.builtin "object.__class__"))) && (eqO (PySem.W.specialIn K (.builtin "object.__class__") "__get__") (some (some (.builtin "getset_descriptor.__get__"))) &&
  (decide (PySem.W.takesIn K (.builtin "object.__class__") = some true) && (decide (PySem.W.mroIn K (ga K C) (.type "object") = some true) && (tags.all (fun t => decide (PySem.W.kitOne K (.ref (ga K C)) (.type t) = some false)) &&
  (tags.all (fun t => decide (PySem.W.kitOne K (.type t) (.ref (ga K C)) = some false)) && (decide (PySem.W.kitOne K (.ref (ga K C)) (.ref (ga K C)) = some true) && eqO (PySem.W.findIn K (.ref (ga K C)) "__ne__") (some (some (.builtin "object.__ne__"))))))))))))
def bin1 (K : Fg) (C : Str) (nm : String) : Bool := eqO (PySem.W.findIn K (.ref (ga K C)) (dunderR nm)) (some none) && (tags.all (fun t => (PySem.W.findIn K (.type t) (PySem.dunder nm)).isSome) && tags.all (fun t => (PySem.W.findIn K (.type t) (dunderR nm)).isSome))
def binB (K : Fg) (p : Fi × Fd) : Bool := match p.1 with
  | .m C nm => [Operator.Add, .Sub, .Mult].all fun o => !decide (dunder o = some nm) || bin1 K C o.info.2
  | _ => true
def clsV (K : Fg) (p : Str × Bool) : Value := if p.2 = true then .ref (ga K p.1) else (bootBuiltins p.1).getD .none
def exB (S : Sou) (K : Fg) (p : Str × Bool) : Bool := (if p.2 = true then gloF K p.1 else freeB K p.1 && ((bootBuiltins p.1).isSome && !decide (p.1 = "__name__"))) && S.exm.all fun e => !decide (e.1.1 = p.1) || decide (PySem.W.exmOne K (.ref (ga K e.1.2)) (clsV K p) = some e.2)
def refsB : List Value → Bool
  | .ref _ :: r => refsB r
  | l => decide (l = [.type "ValueError", .type "Exception", .type "BaseException", .type "object"])
def errB (K : Fg) (x : Str) : Bool := (match K.lookup (ga K x) with
    | some ⟨.type c, _, .cls cd, sl⟩ => (match cd.mro, sl.toList with
      | .ref C' :: bm, [_, _, _, _, some (.builtin n), _] => decide (c = "type") && (decide (C' = ga K x) && (decide (n = "ValueError.__new__") && (!cd.hasDel && (cd.hasDict && refsB bm))))
      | _, _ => false)
    | _ => false) && (eqO (PySem.W.findIn K (.ref (ga K x)) "__setattr__") (some (some (.builtin "object.__setattr__"))) && (decide (PySem.W.subIn K (.ref (ga K x)) (.type "BaseException") = some true) &&
      (decide (PySem.W.typeIn K (.ref (ga K x)) = some (.type "type")) && (PySem.W.keepIn K (.ref (ga K x)) && (eqO (PySem.W.findIn K (.ref (ga K x)) "__init__") (some (some (.ref (ma K (ga K x) "__init__")))) &&
      decide (PySem.W.typeIn K (.ref (ma K (ga K x) "__init__")) = some (.type "function")))))))
def erB (K : Fg) (p : Str × List Str) : Bool := gloF K p.1 && (errB K p.1 && (xfB K (ga K p.1) && p.2.all fun f => eqO (PySem.W.findIn K (.ref (ga K p.1)) f) (some none)))
def Sou.ok (S : Sou) (K : Fg) : Bool := S.gls.all (glF K) && (S.frs.all (freeB K) && (S.fns.all (fnB K) && (S.own.all (clsB K) && ((S.own.all fun C => S.fds.all fun f => (Fa.noat C f).ok K) && (S.fns.all (binB K) && (S.exn.all (exB S K) &&
  ((S.own.all fun C => S.own.all fun C' => decide (C = C') || decide (PySem.W.kitOne K (.ref (ga K C)) (.ref (ga K C')) = some false)) && (S.ers.all (erB K) && (gloF K S.base && (readB K S.base && initB K S.base))))))))))
abbrev AlB : Type := Bool × List FnW
def obsB (S : Sou) (fn : List Df) (K : Fg) : AlB := (S.ok K && fn.all fun d => d.ok K, fn.map fun d => dfW K (adr K d.fi))
def valB (fn : List Df) : AlB := (true, fn.map Df.val)
def SaysB (S : Sou) (fn : List Df) (K : Fg) : Prop := obsB S fn K = valB fn
def asE (g : Addr → Option Obj) : Nat → List Addr
  | 0 => [mainGlobals, cStatics]
  | n + 1 => growD g (asE g n)
def obsBG (n : Nat) (S : Sou) (fn : List Df) (g : Addr → Option Obj) : AlB := obsB S fn (frG g (asE g n))
def hookB (n : Nat) (S : Sou) (fn : List Df) : PySem.W.Hook where
  α := AlB
  obs := fun s => obsBG n S fn s.heap.get?
  val := fun _ => valB fn
  says := fun _ h => ∃ K : Fg, K.In h ∧ SaysB S fn K
  of := fun _ _ e => ⟨_, frG_in, e⟩
  keeps := fun _ _ _ ⟨K, hK, c⟩ k => ⟨K, PySem.W.Frag.In.keeps hK k, c⟩
theorem obsBG_eq {n : Nat} {S : Sou} {fn : List Df} {g : Addr → Option Obj} {s : Shared} (h : ∀ a, g a = s.heap.get? a) : obsBG n S fn g = (hookB n S fn).obs s := by
  have e : g = s.heap.get? := funext h
  rw [e] <;> rfl
section
variable {S : Sou} {fn : List Df} {K : Fg} {h : Heap} {mg : Str → Option Value}
theorem SaysB.ok (c : SaysB S fn K) : S.ok K = true := (ba (show (S.ok K && fn.all fun d => d.ok K) = true from congrArg (fun z : AlB => z.1) c)).1
theorem SaysB.def_ (c : SaysB S fn K) (i : Nat) {d : Df} (h : fn[i]? = some d := by rfl) : ∃ fd, FunD K d.name d.qual d.params d.body d.scope (d.dvs K) [] (adr K d.fi) fd := by
  have c2 := (ba (show (S.ok K && fn.all fun d => d.ok K) = true from congrArg (fun z : AlB => z.1) c)).2
  have e : fn.map (fun d => dfW K (adr K d.fi)) = fn.map Df.val := congrArg (fun z : AlB => z.2) c
  have e2 : (fn.map fun d => dfW K (adr K d.fi))[i]? = (fn.map Df.val)[i]? := by rw [e]
  rw [List.getElem?_map, List.getElem?_map, h] at e2
  exact Df.funD (Option.some.inj e2) (List.all_eq_true.mp c2 d (List.mem_of_getElem? h))
theorem refsB_ok : ∀ l : List Value, refsB l = true → PySem.HandSPX.refsVE l = true
  | [], h => by cases h
  | .ref a :: r, h => by
    have h2 : refsB r = true := h
    exact refsB_ok r h2
  | .type t :: r, h => by
    have e : Value.type t :: r = [.type "ValueError", .type "Exception", .type "BaseException", .type "object"] := of_decide_eq_true h
    rw [e]
    decide
  | .none :: r, h => by cases (of_decide_eq_true h : _ = _)
  | .bool _ :: r, h => by cases (of_decide_eq_true h : _ = _)
  | .int _ _ :: r, h => by cases (of_decide_eq_true h : _ = _)
  | .float _ _ :: r, h => by cases (of_decide_eq_true h : _ = _)
  | .str _ _ :: r, h => by cases (of_decide_eq_true h : _ = _)
  | .bytes _ _ :: r, h => by cases (of_decide_eq_true h : _ = _)
  | .builtin _ :: r, h => by cases (of_decide_eq_true h : _ = _)
  | .notImplemented :: r, h => by cases (of_decide_eq_true h : _ = _)
  | .ellipsis :: r, h => by cases (of_decide_eq_true h : _ = _)
theorem errB_ok {x : Str} (c : errB K x = true) : ErrC K (ga K x) := by
  obtain ⟨c0, c⟩ := ba c
  obtain ⟨c1, c⟩ := ba c
  obtain ⟨c2, c⟩ := ba c
  obtain ⟨c3, c⟩ := ba c
  obtain ⟨c4, c⟩ := ba c
  obtain ⟨c5, c6⟩ := ba c
  refine ⟨⟨?_, eqO_ok c1, of_decide_eq_true c2, of_decide_eq_true c3, c4⟩, _, eqO_ok c5, of_decide_eq_true c6, rfl⟩
  cases q : K.lookup (ga K x) with
  | none => rw [q] at c0; cases c0
  | some o =>
    rw [q] at c0
    obtain ⟨oc, od, dt, sl⟩ := o
    cases oc with
    | type cc =>
      cases dt with
      | cls cd =>
        obtain ⟨nm, bs, mro, ns, qn, hd, sn, sb, ab, col, del⟩ := cd
        obtain ⟨sl⟩ := sl
        have c0' : (match (generalizing := false) mro, sl with
          | .ref C' :: bm, [_, _, _, _, some (.builtin n), _] => decide (cc = "type") && (decide (C' = ga K x) && (decide (n = "ValueError.__new__") && (!del && (hd && refsB bm))))
          | _, _ => false) = true := c0
        split at c0'
        · rename_i C' bm k0 k1 k2 k3 n k5
          obtain ⟨z1, z⟩ := ba c0'
          obtain ⟨z2, z⟩ := ba z
          obtain ⟨z3, z⟩ := ba z
          obtain ⟨z4, z⟩ := ba z
          obtain ⟨z5, z6⟩ := ba z
          have y1 := of_decide_eq_true z1
          have y2 := of_decide_eq_true z2
          have y3 := of_decide_eq_true z3
          subst y1 y2 y3
          have y4 : del = false := by cases del with | false => rfl | true => cases z4
          have y5 : hd = true := z5
          subst y4 y5
          exact ⟨nm, qn, ns, bs, _, sn, sb, ab, col, od, _, _, _, _, _, rfl, refsB_ok _ z6⟩
        · cases c0'
      | _ => cases c0
    | _ => cases dt <;> cases c0
theorem gloF_ok (X : K.In h) (G : h.Ns mainGlobals mg) {x : Str} (c : gloF K x = true) : mg x = some (.ref (ga K x)) := PySem.W.mg_of X G (eqO_ok c)
theorem freeB_ok (X : K.In h) (G : h.Ns mainGlobals mg) {x : Str} (c : freeB K x = true) : mg x = none := PySem.W.mg_none_of X G (eqO_ok c)
theorem readB_ok {x : Str} (c : readB K x = true) : ClX.CRead K (ga K x) (.type "type") := by
  obtain ⟨a, b⟩ := ba c
  exact ⟨a, eqO_ok b⟩
theorem baseB_ok {x : Str} (c1 : readB K x = true) (c2 : initB K x = true) : BaseC K (ga K x) := by
  refine ⟨readB_ok c1, ?_⟩
  unfold initB at c2
  split at c2
  · rename_i i e
    rw [e, of_decide_eq_true c2]
  · cases c2
theorem propB_ok {C f : Str} (c : propB K C f = true) : PropOf K (ga K C) f (ma K (ga K C) f) (recFn K C "property" f) := by
  obtain ⟨c1, c⟩ := ba c
  obtain ⟨c2, c⟩ := ba c
  obtain ⟨c3, c4⟩ := ba c
  refine ⟨eqO_ok c1, eqO_ok c2, of_decide_eq_true c3, ?_⟩
  unfold recFn
  split at c4
  · rename_i g rest e
    rw [e]
    exact ⟨rest, rfl⟩
  · cases c4
theorem cmethB_ok {C m : Str} (c : cmethB K C m = true) : ClX.CMet K (ga K C) (.type "type") m (ma K (ga K C) m) (recFn K C "classmethod" m) := by
  obtain ⟨c1, c⟩ := ba c
  obtain ⟨c2, c3⟩ := ba c
  refine ⟨?_, ?_, c3⟩
  · split at c1
    · rename_i g p D e
      obtain ⟨k1, k⟩ := ba c1
      obtain ⟨k2, k3⟩ := ba k
      rw [e, of_decide_eq_true k1, of_decide_eq_true k2, of_decide_eq_true k3]
    · cases c1
  · unfold recFn
    split at c2
    · rename_i g rest e
      rw [e]
      exact ⟨rest, rfl⟩
    · cases c2
theorem clsB_ok {C : Str} (c : clsB K C = true) : ClsK K C := by
  obtain ⟨c1, c⟩ := ba c
  obtain ⟨c2, c⟩ := ba c
  obtain ⟨c3, c⟩ := ba c
  obtain ⟨c4, c⟩ := ba c
  obtain ⟨c5, c⟩ := ba c
  obtain ⟨c6, c⟩ := ba c
  obtain ⟨c7, c⟩ := ba c
  obtain ⟨c8, c⟩ := ba c
  obtain ⟨c9, c⟩ := ba c
  obtain ⟨c10, c11⟩ := ba c
  exact ⟨cls_ok c1, c2, fun t ht => of_decide_eq_true (List.all_eq_true.mp c3 t ht), eqO_ok c4, eqO_ok c5, of_decide_eq_true c6, of_decide_eq_true c7, fun t ht => of_decide_eq_true (List.all_eq_true.mp c8 t ht), fun t ht => of_decide_eq_true (List.all_eq_true.mp c9 t ht), of_decide_eq_true c10, eqO_ok c11⟩
/-- the source is as told -/
structure SouOk (S : Sou) (K : Fg) : Prop where
  gls : ∀ p ∈ S.gls, glF K p = true
  frs : ∀ p ∈ S.frs, freeB K p = true
  fns : ∀ p ∈ S.fns, fnB K p = true
  own : ∀ p ∈ S.own, clsB K p = true
  fds : ∀ C ∈ S.own, ∀ f ∈ S.fds, (Fa.noat C f).ok K = true
  bin : ∀ p ∈ S.fns, binB K p = true
  exn : ∀ p ∈ S.exn, exB S K p = true
  two : ∀ C ∈ S.own, ∀ C' ∈ S.own, (decide (C = C') || decide (PySem.W.kitOne K (.ref (ga K C)) (.ref (ga K C')) = some false)) = true
  ers : ∀ p ∈ S.ers, erB K p = true
  bg : gloF K S.base = true
  br : readB K S.base = true
  bi : initB K S.base = true
theorem src_ok (c : S.ok K = true) : SouOk S K := by
  obtain ⟨c1, c⟩ := ba c
  obtain ⟨c2, c⟩ := ba c
  obtain ⟨c3, c⟩ := ba c
  obtain ⟨c4, c⟩ := ba c
  obtain ⟨c5, c⟩ := ba c
  obtain ⟨c6, c⟩ := ba c
  obtain ⟨c7, c⟩ := ba c
  obtain ⟨c8, c⟩ := ba c
  obtain ⟨c9, c⟩ := ba c
  obtain ⟨c10, c⟩ := ba c
  obtain ⟨c11, c12⟩ := ba c
  exact ⟨List.all_eq_true.mp c1, List.all_eq_true.mp c2, List.all_eq_true.mp c3, List.all_eq_true.mp c4, fun C hC => List.all_eq_true.mp (List.all_eq_true.mp c5 C hC), List.all_eq_true.mp c6, List.all_eq_true.mp c7, fun C hC => List.all_eq_true.mp (List.all_eq_true.mp c8 C hC), List.all_eq_true.mp c9, c10, c11, c12⟩
theorem kn_of (X : K.In h) (G : h.Ns mainGlobals mg) (s : SouOk S K) : Kn S.tb K mg where
  gl := fun x d e => by
    have c := s.gls _ (lookup_in e)
    unfold glF at c
    dsimp only at c
    cases q : dV K d with
    | none => rw [q] at c; cases c
    | some v =>
      cases q2 : PySem.W.nsIn K mainGlobals x with
      | none => rw [q, q2] at c; cases c
      | some o =>
        cases o with
        | none => rw [q, q2] at c; cases c
        | some u =>
          rw [q, q2] at c
          exact ⟨u, v, PySem.W.mg_of X G q2, relB_ok c, dV_is q⟩
  fr := fun x e => freeB_ok X G (s.frs x (of_decide_eq_true e))
  g := fun x fd e => by
    obtain ⟨c1, c2⟩ := ba (show (gloF K x && keepB K x) = true from s.fns _ (lookup_in e))
    exact ⟨gloF_ok X G c1, c2⟩
  k := fun C fd e => by
    obtain ⟨c1, c⟩ := ba (show (gloF K C && (keepB K C && ((Fa.mkr C).ok K && decide (1 ≤ fd.np)))) = true from s.fns _ (lookup_in e))
    obtain ⟨c2, c⟩ := ba c
    obtain ⟨c3, c4⟩ := ba c
    exact ⟨gloF_ok X G c1, c2, mkr_ok c3, of_decide_eq_true c4⟩
  m := fun C x fd e => meth_ok (show (Fa.meth C x).ok K = true from s.fns _ (lookup_in e))
  p := fun C x fd e => propB_ok (show propB K C x = true from s.fns _ (lookup_in e))
  c := fun C x fd e => by
    obtain ⟨c1, c⟩ := ba (show (cmethB K C x && (readB K C && decide (1 ≤ fd.np))) = true from s.fns _ (lookup_in e))
    obtain ⟨c2, c3⟩ := ba c
    exact ⟨cmethB_ok c1, readB_ok c2, of_decide_eq_true c3⟩
  cls := fun C e => clsB_ok (s.own C (of_decide_eq_true e))
  fd := fun C e f hf => noat_ok (s.fds C (of_decide_eq_true e) f hf)
  bin := fun C e o nm fd ho hf => by
    have c : ([Operator.Add, .Sub, .Mult].all fun o => !decide (dunder o = some nm) || bin1 K C o.info.2) = true := s.bin _ (lookup_in hf)
    have hm : o ∈ [Operator.Add, .Sub, .Mult] := by cases o <;> first | (cases ho; done) | simp
    have c2 : (!decide (dunder o = some nm) || bin1 K C o.info.2) = true := List.all_eq_true.mp c o hm
    rw [decide_eq_true ho] at c2
    obtain ⟨d1, d⟩ := ba (show bin1 K C o.info.2 = true from c2)
    obtain ⟨d2, d3⟩ := ba d
    exact ⟨eqO_ok d1, List.all_eq_true.mp d2, List.all_eq_true.mp d3⟩
  exm := fun C e => by
    have e : (S.exn.lookup C).isSome = true := e
    cases q : S.exn.lookup C with
    | none => rw [q] at e; cases e
    | some b =>
      obtain ⟨c1, c2⟩ := ba (show exB S K (C, b) = true from s.exn _ (lookup_in q))
      refine ⟨clsV K (C, b), ?_, fun C' b' e' => ?_⟩
      · cases b with
        | true => exact .inl (gloF_ok X G c1)
        | false =>
          obtain ⟨d1, d⟩ := ba (show (freeB K C && ((bootBuiltins C).isSome && !decide (C = "__name__"))) = true from c1)
          obtain ⟨d2, d3⟩ := ba d
          refine .inr ⟨freeB_ok X G d1, ?_, fun z => ?_⟩
          · cases q2 : bootBuiltins C with
            | none => rw [q2] at d2; cases d2
            | some u => show _ = some ((bootBuiltins C).getD .none); rw [q2]; rfl
          · rw [decide_eq_true z] at d3; cases d3
      · have c3 : (!decide (C = C) || decide (PySem.W.exmOne K (.ref (ga K C')) (clsV K (C, b)) = some b')) = true := List.all_eq_true.mp c2 ((C, C'), b') (lookup_in e')
        rw [decide_eq_true rfl] at c3
        exact of_decide_eq_true c3
  two := fun C C' e e' ne => by
    have c := s.two C (of_decide_eq_true e) C' (of_decide_eq_true e')
    rw [decide_eq_false ne] at c
    exact of_decide_eq_true c
theorem SouOk.err {P : Program} {w : World} {base : Heap} {x : Str} {ns : List Str} (s : SouOk S K) (X : K.In h) (G : h.Ns mainGlobals mg) (hx : (x, ns) ∈ S.ers)
    (f : BaseC K (ga K S.base) → mg S.base = some (.ref (ga K S.base)) → ∃ sp : Sp, (∃ fd ps, FnOk P w K mg base (L2.CX P w) 1 (ma K (ga K x) "__init__") fd ps sp ∧ Binds K fd ps []) ∧ ((ns = [] ∧ sp = spE0 K) ∨ (∃ f, ns = [f] ∧ sp = spE1 K f) ∨ ∃ f g, ns = [f, g] ∧ f ≠ g ∧ sp = spE2 K f g)) : ErrR P w K mg base x ns := by
  obtain ⟨c1, c⟩ := ba (show (gloF K x && (errB K x && (xfB K (ga K x) && ns.all fun f => eqO (PySem.W.findIn K (.ref (ga K x)) f) (some none)))) = true from s.ers _ hx)
  obtain ⟨c2, c⟩ := ba c
  obtain ⟨c3, c4⟩ := ba c
  exact ⟨⟨xfB_ok c3, fun f hf => eqO_ok (List.all_eq_true.mp c4 f (List.mem_reverse.mp hf))⟩, errB_ok c2, gloF_ok X G c1, f (baseB_ok s.br s.bi) (gloF_ok X G s.bg)⟩
/-- of each of them -/
def AllP {α : Type} (P : α → Prop) : List α → Prop
  | [] => True
  | x :: r => P x ∧ AllP P r
theorem AllP.mem {α : Type} {P : α → Prop} : ∀ {l : List α}, AllP P l → ∀ x ∈ l, P x
  | y :: r, ⟨h1, h2⟩, x, hx => by
    rcases List.mem_cons.mp hx with rfl | hx
    · exact h1
    · exact AllP.mem h2 x hx
structure TF (S : Sou) (fn : List Df) (K : Fg) (mg : Str → Option Value) (h : Heap) : Prop where
  X : K.In h
  G : h.Ns mainGlobals mg
  c : SaysB S fn K
/-- all defs of the source keep their promises -/
theorem TF.lv {P : Program} {w : World} {base : Heap} {q : Bool} (T : TF S fn K mg h) (he : ∀ p ∈ S.ers, ErrR P w K mg base p.1 p.2) (hd0 : ∀ p ∈ S.fns, DefR K S.tb p.1 p.2) (n : Nat) : Lv S.pg q P w K mg base n :=
  lv_all (τ := S.tb) (kn_of T.X T.G (src_ok T.c.ok)) (fun x ns e => he _ (lookup_in e)) (fun fi fd e => hd0 _ (lookup_in e)) n
end
end L4

set_option Elab.async false
set_option linter.all false
set_option maxRecDepth 100000
set_option maxHeartbeats 4000000
/-! The evaluator run by simp. -/
namespace L4
open PySem PySem.Spec PyProof.Rows L2
section
variable {α β : Type}
theorem bind_ap (m : T α) (k : α → T β) (G : Cs) : T.bind m k G = (match m G with
    | none => none
    | some (.error e, G1) => some (.error e, G1)
    | some (.ok x, G1) => k x G1) := rfl
theorem ask_ap (c : Bool) (m : T α) (G : Cs) : T.ask c m G = cond c (m G) none := rfl
theorem pure_ap (x : α) (G : Cs) : T.pure x G = some (.ok x, G) := rfl
theorem stuck_ap (G : Cs) : (T.stuck : T α) G = none := rfl
theorem lift_ap (m : T α) (ρ : Env) (G : Cs) (k : α → Cs → TS) : lift m ρ G k = (match m G with
    | none => none
    | some (.error er, G1) => some (.exc er, ρ, G1)
    | some (.ok x, G1) => k x G1) := rfl
theorem sure_ap (m : T α) (G : Cs) : T.sure m G = (match m G with
    | some (.ok w, G1) => some (.ok w, G1)
    | _ => none) := rfl
theorem cond_m (c : Bool) (a b : α) : cond c a b = (match c with
    | true => a
    | false => b) := by cases c <;> rfl
theorem cond_t (a b : α) : cond true a b = a := rfl
theorem cond_f (a b : α) : cond false a b = b := rfl
end
section
variable {Γ : Pg} {q : Bool} {n : Nat} {fd : Fd} {ws ws' : List Rv} {x C : Str}
theorem call_g (h : Γ.fn (.g x) = some fd) (ha : argsOf fd ws = some ws') : call Γ q (n + 1) (.g x) ws = runF q (hd Γ q n) fd ws' := by
  unfold call
  rw [h]
  dsimp only
  rw [ha]
  rfl
theorem call_m (h : Γ.fn (.m C x) = some fd) (ha : argsOf fd ws = some ws') : call Γ q (n + 1) (.m C x) ws = runF q (hd Γ q n) fd ws' := by
  unfold call
  rw [h]
  dsimp only
  rw [ha]
  rfl
theorem call_p (h : Γ.fn (.p C x) = some fd) (ha : argsOf fd ws = some ws') : call Γ q (n + 1) (.p C x) ws = runF q (hd Γ q n) fd ws' := by
  unfold call
  rw [h]
  dsimp only
  rw [ha]
  rfl
theorem call_k (h : Γ.fn (.k C) = some fd) (ha : argsOf { fd with np := fd.np - 1 } ws = some ws') : call Γ q (n + 1) (.k C) ws = runK q (hd Γ q n) fd C ws' := by
  unfold call
  rw [h]
  dsimp only
  rw [ha]
  rfl
theorem call_c (h : Γ.fn (.c C x) = some fd) (ha : argsOf { fd with np := fd.np - 1 } ws = some ws') : call Γ q (n + 1) (.c C x) ws = runF q (hd Γ q n) fd (.d (.cl C) :: ws') := by
  unfold call
  rw [h]
  dsimp only
  rw [ha]
  rfl
end
theorem hd_call {Γ : Pg} {q : Bool} {n : Nat} : (hd Γ q n).call = call Γ q n := rfl
theorem hd_cls {Γ : Pg} {q : Bool} {n : Nat} : (hd Γ q n).cls = Γ.cls := rfl
theorem hd_exm {Γ : Pg} {q : Bool} {n : Nat} : (hd Γ q n).exm = Γ.exm := rfl
theorem hd_has {Γ : Pg} {q : Bool} {n : Nat} {fi : Fi} : (hd Γ q n).has fi = (Γ.fn fi).isSome := rfl
theorem hd_k {Γ : Pg} {q : Bool} {n : Nat} : call Γ q n = (hd Γ q n).call := rfl
section
variable {G : Cs} {u v : D}
theorem get_last : (G ++ [u])[G.length]? = some u := by simp
theorem set_last : (G ++ [u]).set G.length v = G ++ [v] := by
  rw [List.set_append_right _ _ (Nat.le_refl _)]
  simp
theorem take_last : (G ++ [u]).take G.length = G := by simp
theorem take_all : (G ++ [v]).take (G ++ [u]).length = G ++ [v] := by
  rw [List.length_append, List.take_of_length_le (by simp)]
theorem dec_true {p : Prop} [Decidable p] (h : p) : decide p = true := decide_eq_true h
end
end L4

set_option Elab.async false
set_option linter.all false
set_option maxRecDepth 100000
set_option maxHeartbeats 4000000
/-! Loops of the evaluator: comprehensions, for. -/
namespace L4
open PySem PySem.Spec PyProof.Rows L2
theorem heldB_nil (G : Cs) : heldB [] G = true := rfl
theorem held_nil (G : Cs) : held [] G = some (.ok (), G) := rfl
section
variable {q : Bool} {h : Hd} {ρ : Env} {G : Cs}
theorem addL_last {us : List D} {v : D} (hl : us.length < line) : addL G.length v (G ++ [.lst us]) = some (.ok (), G ++ [.lst (us ++ [v])]) := by
  unfold addL
  rw [get_last]
  dsimp only
  rw [set_last, decide_eq_true hl]
  rfl
theorem each_lc {f : D → D} {c : D → Bool} {step : D → T Unit} : ∀ {xs us : List D}, us.length + xs.length ≤ line →
    (∀ x ∈ xs, ∀ us : List D, us.length < line → step x (G ++ [.lst us]) = some (.ok (), G ++ [.lst (if c x = true then us ++ [f x] else us)])) →
    T.each [] step xs (G ++ [.lst us]) = some (.ok (), G ++ [.lst (us ++ (xs.filter c).map f)])
  | [], us, _, _ => by simp [T.each, held_nil]
  | x :: xs, us, hl, hs => by
    rw [List.length_cons] at hl
    have h1 := hs x List.mem_cons_self us (by omega)
    unfold T.each
    rw [bind_ap, held_nil]
    dsimp only
    rw [bind_ap]
    unfold T.sure
    rw [h1]
    dsimp only
    cases hc : c x with
    | true =>
      rw [if_pos rfl, each_lc (us := us ++ [f x]) (by simp; omega) (fun y hy => hs y (List.mem_cons_of_mem _ hy)), List.filter_cons_of_pos hc]
      simp
    | false =>
      rw [if_neg (by simp), each_lc (us := us) (by omega) (fun y hy => hs y (List.mem_cons_of_mem _ hy)), List.filter_cons_of_neg (by simp [hc])]
/-- [e for .. in .. if ..], where nothing is raised, nothing changes -/
theorem lc_run {e : X} {vs : List Nat} {tg : Tg} {it : It} {co : Xo} {xs : List D} (f : D → D) (c : D → Bool) (hit : eIt q h it ρ G = some (.ok (xs, []), G)) (hl : xs.length ≤ line)
    (hx : ∀ x ∈ xs, ∃ ρ1, putT tg x (blkE vs ρ) = some ρ1 ∧ ∀ G', eXt q h co ρ1 G' = some (.ok (c x), G') ∧ (c x = true → eX q h e ρ1 G' = some (.ok (.d (f x)), G'))) :
    eX q h (.lc e (.one vs tg it co)) ρ G = some (.ok (.n (.lst ((xs.filter c).map f))), G) := by
  unfold eX eCl
  rw [bind_ap, hit]
  dsimp only
  unfold making
  dsimp only
  rw [each_lc (f := f) (c := c) (by simpa using hl) fun x hx' us hu => ?_]
  · dsimp only
    rw [get_last]
    dsimp only
    rw [take_last]
    simp
  · obtain ⟨ρ1, h1, h2⟩ := hx x hx'
    rw [bind_ap, h1]
    show T.bind (eXt q h co ρ1) _ _ = _
    rw [bind_ap, (h2 _).1]
    dsimp only
    cases hc : c x with
    | true =>
      rw [cond_t, bind_ap, bind_ap, (h2 _).2 hc]
      show addL G.length (f x) _ = _
      rw [addL_last hu, if_pos rfl]
    | false => rw [cond_f, if_neg (by simp)]
end
section
variable {body : Env → Cs → TS} {tg : Tg}
/-- a for that goes to its end -/
theorem for_all (I : Nat → Env → Cs → Prop) : ∀ (xs : List D) (k : Nat) (ρ : Env) (G : Cs), I k ρ G →
    (∀ j x ρ G, xs[j]? = some x → I (k + j) ρ G → ∃ ρ1 ρ2 G2, putT tg x ρ = some ρ1 ∧ body ρ1 G = some (.nx, ρ2, G2) ∧ I (k + j + 1) ρ2 G2) →
    ∃ ρ' G', forL body tg [] xs ρ G = some (.nx, ρ', G') ∧ I (k + xs.length) ρ' G'
  | [], k, ρ, G, hi, _ => ⟨ρ, G, rfl, hi⟩
  | x :: xs, k, ρ, G, hi, hs => by
    obtain ⟨ρ1, ρ2, G2, h1, h2, h3⟩ := hs 0 x ρ G rfl hi
    obtain ⟨ρ', G', h4, h5⟩ := for_all I xs (k + 1) ρ2 G2 h3 fun j y ρ G hj hi => by
      have := hs (j + 1) y ρ G (by simpa using hj)
      rw [show k + (j + 1) = k + 1 + j by omega] at this
      exact this hi
    refine ⟨ρ', G', ?_, ?_⟩
    · unfold forL
      rw [heldB_nil, h1]
      dsimp only [cond_t]
      rw [h2]
      exact h4
    · rw [List.length_cons, show k + (xs.length + 1) = k + 1 + xs.length by omega]
      exact h5
/-- a for that looks at each item, and ends by the first that is not good; R: the slots but for the items' -/
theorem for_find (R : Env → Prop) (st : D → Env) (ok : D → Bool) (w : Rv) {G : Cs} : ∀ (xs : List D) (ρ : Env), R ρ → (∀ x ∈ xs, R (st x) ∧ ∀ ρ, R ρ → putT tg x ρ = some (st x)) →
    (∀ x ∈ xs, body (st x) G = if ok x = true then some (.nx, st x, G) else some (.ret w, st x, G)) →
    ∃ ρ', R ρ' ∧ forL body tg [] xs ρ G = if xs.all ok = true then some (.nx, ρ', G) else some (.ret w, ρ', G)
  | [], ρ, hr, _, _ => ⟨ρ, hr, rfl⟩
  | x :: xs, ρ, hr, hp, hs => by
    obtain ⟨h0, h1⟩ := hp x List.mem_cons_self
    have h1 := h1 ρ hr
    have h2 := hs x List.mem_cons_self
    cases hc : ok x with
    | true =>
      obtain ⟨ρ', h3, h4⟩ := for_find R st ok w xs (st x) h0 (fun y hy => hp y (List.mem_cons_of_mem _ hy)) (fun y hy => hs y (List.mem_cons_of_mem _ hy))
      refine ⟨ρ', h3, ?_⟩
      rw [hc, if_pos rfl] at h2
      unfold forL
      rw [heldB_nil, h1]
      dsimp only [cond_t]
      rw [h2]
      dsimp only
      rw [h4, List.all_cons, hc, Bool.true_and]
    | false =>
      refine ⟨st x, h0, ?_⟩
      rw [hc, if_neg (by simp)] at h2
      unfold forL
      rw [heldB_nil, h1]
      dsimp only [cond_t]
      rw [h2, List.all_cons, hc, Bool.false_and]
      rfl
end
end L4

set_option Elab.async false
set_option linter.all false
set_option maxRecDepth 100000
set_option maxHeartbeats 4000000
/-! Quotients: the defs that all laws share. -/
namespace L4
open PySem PySem.Spec PyProof.Rows L2
namespace Q
def b_is_integer : Ss := (.cons (.ret (.and (.isi (.var 0) (.bt "int" "int")) (.nt (.isi (.var 0) (.bt "bool" "bool")))))
    .nil)
def fd_is_integer : Fd := ⟨1, 1, [], b_is_integer⟩
def b_is_number : Ss := (.cons (.ret (.or (.fn "is_integer" (.cons (.var 0) .nil)) (.isi (.var 0) (.cl "Ratio"))))
    .nil)
def fd_is_number : Fd := ⟨1, 1, [], b_is_number⟩
def x0_common_divisor : X := (.cmp .NotEq (.var 1) (.con (.int 0)))
def s1_common_divisor : Ss := (.cons (.par [0, 1] [false, false] (.cons (.var 1) (.cons (.bin .Mod (.var 0) (.var 1)) .nil)))
    .nil)
def b_common_divisor : Ss := (.cons (.while x0_common_divisor s1_common_divisor)
    (.cons (.ret (.blt .abs (.cons (.var 0) .nil)))
    .nil))
def fd_common_divisor : Fd := ⟨2, 2, [], b_common_divisor⟩
def b_Ratio___init__ : Ss := (.cons (.ite (.cmp .Eq (.var 2) (.con (.int 0))) (.cons (.rai "ByZero" [] .nil)
    .nil) .nil)
    (.cons (.set 3 false (.fn "common_divisor" (.cons (.var 1) (.cons (.var 2) .nil))))
    (.cons (.ite (.cmp .Lt (.var 2) (.con (.int 0))) (.cons (.set 3 false (.neg (.var 3)))
    .nil) .nil)
    (.cons (.att (.var 0) "own_top" (.bin .FloorDiv (.var 1) (.var 3)))
    (.cons (.att (.var 0) "own_bottom" (.bin .FloorDiv (.var 2) (.var 3)))
    .nil)))))
def fd_Ratio___init__ : Fd := ⟨3, 4, [.int 1], b_Ratio___init__⟩
def b_Ratio_top : Ss := (.cons (.ret (.att (.var 0) "own_top"))
    .nil)
def fd_Ratio_top : Fd := ⟨1, 1, [], b_Ratio_top⟩
def b_Ratio_bottom : Ss := (.cons (.ret (.att (.var 0) "own_bottom"))
    .nil)
def fd_Ratio_bottom : Fd := ⟨1, 1, [], b_Ratio_bottom⟩
def b_Ratio___add__ : Ss := (.cons (.set 2 false (.fn "as_ratio" (.cons (.var 1) .nil)))
    (.cons (.ret (.mk "Ratio" (.cons (.bin .Add (.bin .Mult (.prp (.var 0) "top") (.prp (.var 2) "bottom")) (.bin .Mult (.prp (.var 2) "top") (.prp (.var 0) "bottom"))) (.cons (.bin .Mult (.prp (.var 0) "bottom") (.prp (.var 2) "bottom")) .nil))))
    .nil))
def fd_Ratio___add__ : Fd := ⟨2, 3, [], b_Ratio___add__⟩
def b_Ratio___sub__ : Ss := (.cons (.set 2 false (.fn "as_ratio" (.cons (.var 1) .nil)))
    (.cons (.ret (.mk "Ratio" (.cons (.bin .Sub (.bin .Mult (.prp (.var 0) "top") (.prp (.var 2) "bottom")) (.bin .Mult (.prp (.var 2) "top") (.prp (.var 0) "bottom"))) (.cons (.bin .Mult (.prp (.var 0) "bottom") (.prp (.var 2) "bottom")) .nil))))
    .nil))
def fd_Ratio___sub__ : Fd := ⟨2, 3, [], b_Ratio___sub__⟩
def b_Ratio___mul__ : Ss := (.cons (.set 2 false (.fn "as_ratio" (.cons (.var 1) .nil)))
    (.cons (.ret (.mk "Ratio" (.cons (.bin .Mult (.prp (.var 0) "top") (.prp (.var 2) "top")) (.cons (.bin .Mult (.prp (.var 0) "bottom") (.prp (.var 2) "bottom")) .nil))))
    .nil))
def fd_Ratio___mul__ : Fd := ⟨2, 3, [], b_Ratio___mul__⟩
def b_Ratio___neg__ : Ss := (.cons (.ret (.mk "Ratio" (.cons (.neg (.prp (.var 0) "top")) (.cons (.prp (.var 0) "bottom") .nil))))
    .nil)
def fd_Ratio___neg__ : Fd := ⟨1, 1, [], b_Ratio___neg__⟩
def b_Ratio___eq__ : Ss := (.cons (.ite (.fn "is_integer" (.cons (.var 1) .nil)) (.cons (.ret (.and (.cmp .Eq (.prp (.var 0) "bottom") (.con (.int 1))) (.cmp .Eq (.prp (.var 0) "top") (.var 1))))
    .nil) .nil)
    (.cons (.ret (.and (.isi (.var 1) (.cl "Ratio")) (.and (.cmp .Eq (.prp (.var 0) "top") (.prp (.var 1) "top")) (.cmp .Eq (.prp (.var 0) "bottom") (.prp (.var 1) "bottom")))))
    .nil))
def fd_Ratio___eq__ : Fd := ⟨2, 2, [], b_Ratio___eq__⟩
def b_Ratio___lt__ : Ss := (.cons (.set 2 false (.fn "as_ratio" (.cons (.var 1) .nil)))
    (.cons (.ret (.cmp .Lt (.bin .Mult (.prp (.var 0) "top") (.prp (.var 2) "bottom")) (.bin .Mult (.prp (.var 2) "top") (.prp (.var 0) "bottom"))))
    .nil))
def fd_Ratio___lt__ : Fd := ⟨2, 3, [], b_Ratio___lt__⟩
def b_Ratio___le__ : Ss := (.cons (.set 2 false (.fn "as_ratio" (.cons (.var 1) .nil)))
    (.cons (.ret (.cmp .LtE (.bin .Mult (.prp (.var 0) "top") (.prp (.var 2) "bottom")) (.bin .Mult (.prp (.var 2) "top") (.prp (.var 0) "bottom"))))
    .nil))
def fd_Ratio___le__ : Fd := ⟨2, 3, [], b_Ratio___le__⟩
def b_Ratio_over : Ss := (.cons (.set 2 false (.fn "as_ratio" (.cons (.var 1) .nil)))
    (.cons (.ret (.mk "Ratio" (.cons (.bin .Mult (.prp (.var 0) "top") (.prp (.var 2) "bottom")) (.cons (.bin .Mult (.prp (.var 0) "bottom") (.prp (.var 2) "top")) .nil))))
    .nil))
def fd_Ratio_over : Fd := ⟨2, 3, [], b_Ratio_over⟩
def b_Ratio_text : Ss := (.cons (.ret (.ite (.cmp .Eq (.prp (.var 0) "bottom") (.con (.int 1))) (.blt .str (.cons (.prp (.var 0) "top") .nil)) (.fst (.cons (.prp (.var 0) "top") (.cons (.con (.str "/")) (.cons (.prp (.var 0) "bottom") .nil))))))
    .nil)
def fd_Ratio_text : Fd := ⟨1, 1, [], b_Ratio_text⟩
def b_Ratio_read : Ss := (.cons (.tups [2, 3, 4] (.met (.var 1) "partition" (.cons (.con (.str "/")) .nil)))
    (.cons (.ite (.or (.nt (.fn "is_whole" (.cons (.met (.var 2) "removeprefix" (.cons (.con (.str "-")) .nil)) .nil))) (.and (.cmp .NotEq (.var 3) (.con (.str ""))) (.nt (.fn "is_whole" (.cons (.var 4) .nil))))) (.cons (.rai "BadText" [] .nil)
    .nil) .nil)
    (.cons (.set 5 false (.ite (.cmp .NotEq (.var 3) (.con (.str ""))) (.blt .int (.cons (.var 4) .nil)) (.con (.int 1))))
    (.cons (.ite (.or (.cmp .Eq (.var 5) (.con (.int 0))) (.cmp .NotEq (.met (.mkv 0 (.cons (.blt .int (.cons (.var 2) .nil)) (.cons (.var 5) .nil))) "text" .nil) (.var 1))) (.cons (.rai "BadText" [] .nil)
    .nil) .nil)
    (.cons (.ret (.mkv 0 (.cons (.blt .int (.cons (.var 2) .nil)) (.cons (.var 5) .nil))))
    .nil)))))
def fd_Ratio_read : Fd := ⟨2, 6, [], b_Ratio_read⟩
def x0_is_whole : X := (.cmp .In (.var 1) (.glo "DIGITS" (.str "0123456789")))
def b_is_whole : Ss := (.cons (.ret (.and (.cmp .NotEq (.var 0) (.con (.str ""))) (.blt .all (.cons (.lc x0_is_whole (.one [1] (.name 1) (.val (.var 0)) .no)) .nil))))
    .nil)
def fd_is_whole : Fd := ⟨1, 2, [], b_is_whole⟩
def b_as_ratio : Ss := (.cons (.ite (.nt (.fn "is_number" (.cons (.var 0) .nil))) (.cons (.rai "BadNumber" ["given"] (.cons (.var 0) .nil))
    .nil) .nil)
    (.cons (.ret (.ite (.isi (.var 0) (.cl "Ratio")) (.var 0) (.mk "Ratio" (.cons (.var 0) .nil))))
    .nil))
def fd_as_ratio : Fd := ⟨1, 1, [], b_as_ratio⟩
end Q
/-- the text holds these defs -/
structure RatPg (Γ : Pg) : Prop where
  is_integer : Γ.fn (.g "is_integer") = some Q.fd_is_integer
  is_number : Γ.fn (.g "is_number") = some Q.fd_is_number
  common_divisor : Γ.fn (.g "common_divisor") = some Q.fd_common_divisor
  Ratio___init__ : Γ.fn (.k "Ratio") = some Q.fd_Ratio___init__
  Ratio_top : Γ.fn (.p "Ratio" "top") = some Q.fd_Ratio_top
  Ratio_bottom : Γ.fn (.p "Ratio" "bottom") = some Q.fd_Ratio_bottom
  Ratio___add__ : Γ.fn (.m "Ratio" "__add__") = some Q.fd_Ratio___add__
  Ratio___sub__ : Γ.fn (.m "Ratio" "__sub__") = some Q.fd_Ratio___sub__
  Ratio___mul__ : Γ.fn (.m "Ratio" "__mul__") = some Q.fd_Ratio___mul__
  Ratio___neg__ : Γ.fn (.m "Ratio" "__neg__") = some Q.fd_Ratio___neg__
  Ratio___eq__ : Γ.fn (.m "Ratio" "__eq__") = some Q.fd_Ratio___eq__
  Ratio___lt__ : Γ.fn (.m "Ratio" "__lt__") = some Q.fd_Ratio___lt__
  Ratio___le__ : Γ.fn (.m "Ratio" "__le__") = some Q.fd_Ratio___le__
  Ratio_over : Γ.fn (.m "Ratio" "over") = some Q.fd_Ratio_over
  Ratio_text : Γ.fn (.m "Ratio" "text") = some Q.fd_Ratio_text
  Ratio_read : Γ.fn (.c "Ratio" "read") = some Q.fd_Ratio_read
  is_whole : Γ.fn (.g "is_whole") = some Q.fd_is_whole
  as_ratio : Γ.fn (.g "as_ratio") = some Q.fd_as_ratio
  cls : Γ.cls "Ratio" = true
/-! ### data -/
abbrev ratN : List Str := ["own_top", "own_bottom"]
def ratD (q : Rat) : D := .ins "Ratio" ratN [.int q.num, .int (q.den : Int)]
theorem neTB : (("own_top" : Str) = "own_bottom") = False := eq_false (by decide +kernel)
theorem neBT : (("own_bottom" : Str) = "own_top") = False := eq_false (by decide +kernel)
section
variable {Γ : Pg} {n : Nat} {G : Cs}
theorem c_top (P : RatPg Γ) (r : Rat) : call Γ true (n + 1) (.p "Ratio" "top") [.d (ratD r)] G = some (.ok (.d (.int r.num)), G) := by
  rw [call_p P.Ratio_top rfl]
  simp only [↓bind_ap, ↓ask_ap, ↓lift_ap, ↓sure_ap, pure_ap, stuck_ap, ↓cond_m, eX, eXs, eDs, eXo, eXt, eIt, eS, eSs, eHs, store, getV, fin, finD, asB, asI, Rv.frz, see, liftO, List.getElem?_cons_zero, List.getElem?_cons_succ, List.set_cons_zero, List.set_cons_succ, List.take_length, handed, start, List.map_cons, List.map_nil, List.length_cons, List.length_nil, List.replicate, List.cons_append, List.nil_append, List.append_nil, Nat.reduceAdd, Nat.reduceSub, hd_call, hd_cls, hd_exm, hd_has, runF, Q.fd_Ratio_top, Q.b_Ratio_top, eAtt, ratD, fldL, if_true, P.cls, askO]
theorem c_bottom (P : RatPg Γ) (r : Rat) : call Γ true (n + 1) (.p "Ratio" "bottom") [.d (ratD r)] G = some (.ok (.d (.int (r.den : Int))), G) := by
  rw [call_p P.Ratio_bottom rfl]
  simp only [↓bind_ap, ↓ask_ap, ↓lift_ap, ↓sure_ap, pure_ap, stuck_ap, ↓cond_m, eX, eXs, eDs, eXo, eXt, eIt, eS, eSs, eHs, store, getV, fin, finD, asB, asI, Rv.frz, see, liftO, List.getElem?_cons_zero, List.getElem?_cons_succ, List.set_cons_zero, List.set_cons_succ, List.take_length, handed, start, List.map_cons, List.map_nil, List.length_cons, List.length_nil, List.replicate, List.cons_append, List.nil_append, List.append_nil, Nat.reduceAdd, Nat.reduceSub, hd_call, hd_cls, hd_exm, hd_has, runF, Q.fd_Ratio_bottom, Q.b_Ratio_bottom, eAtt, ratD, fldL, if_true, if_false, neTB, P.cls, askO]
end
end L4

set_option Elab.async false
set_option linter.all false
set_option maxRecDepth 100000
set_option maxHeartbeats 4000000
/-! Quotients: what the defs answer. -/
namespace L4
open PySem PySem.Spec PyProof.Rows L2
/-! ### the divisor -/
def rdiv (t b : Int) : Int := if b < 0 then -(Int.gcd t b : Int) else (Int.gcd t b : Int)
theorem gcd_pos {t b : Int} (h : b ≠ 0) : 0 < Int.gcd t b := Nat.pos_of_ne_zero fun z => h (Int.gcd_eq_zero_iff.mp z).2
theorem rdiv_ne {t b : Int} (h : b ≠ 0) : rdiv t b ≠ 0 := by
  have := gcd_pos (t := t) h
  unfold rdiv
  split <;> omega
theorem rdiv_abs {t b : Int} : (rdiv t b).natAbs = Int.gcd t b := by
  unfold rdiv
  split <;> simp
theorem rdiv_num {t b : Int} (h : b ≠ 0) : t.fdiv (rdiv t b) = (Rat.divInt t b).num := by
  rw [Rat.num_divInt]
  unfold rdiv
  have g0 := gcd_pos (t := t) h
  rw [Int.gcd_comm b t]
  split
  · rename_i hb
    rw [Int.sign_eq_neg_one_of_neg hb]
    have : t.fdiv (-(Int.gcd t b : Int)) = (-t).fdiv (Int.gcd t b : Int) := by
      have := Int.neg_fdiv_neg t (-(Int.gcd t b : Int))
      rw [Int.neg_neg] at this
      exact this.symm
    rw [this, Int.fdiv_eq_ediv_of_nonneg _ (by omega)]
    congr 1
    omega
  · rename_i hb
    rw [Int.sign_eq_one_of_pos (by omega), Int.one_mul, Int.fdiv_eq_ediv_of_nonneg _ (by omega)]
theorem rdiv_den {t b : Int} (h : b ≠ 0) : b.fdiv (rdiv t b) = ((Rat.divInt t b).den : Int) := by
  rw [Rat.den_divInt, if_neg h]
  unfold rdiv
  have g0 := gcd_pos (t := t) h
  rw [Int.gcd_comm b t, Int.natCast_ediv]
  split
  · rename_i hb
    have : b.fdiv (-(Int.gcd t b : Int)) = (-b).fdiv (Int.gcd t b : Int) := by
      have := Int.neg_fdiv_neg b (-(Int.gcd t b : Int))
      rw [Int.neg_neg] at this
      exact this.symm
    rw [this, Int.fdiv_eq_ediv_of_nonneg _ (by omega)]
    congr 1
    omega
  · rename_i hb
    rw [Int.fdiv_eq_ediv_of_nonneg _ (by omega)]
    congr 1
    omega
theorem q_add (p q : Rat) : Rat.divInt (p.num * (q.den : Int) + q.num * (p.den : Int)) ((p.den : Int) * (q.den : Int)) = p + q := by
  rw [Rat.add_def', show (p.den : Int) * (q.den : Int) = ((p.den * q.den : Nat) : Int) by simp, Rat.divInt_ofNat]
theorem q_sub (p q : Rat) : Rat.divInt (p.num * (q.den : Int) - q.num * (p.den : Int)) ((p.den : Int) * (q.den : Int)) = p - q := by
  rw [Rat.sub_def', show (p.den : Int) * (q.den : Int) = ((p.den * q.den : Nat) : Int) by simp, Rat.divInt_ofNat]
theorem q_mul (p q : Rat) : Rat.divInt (p.num * q.num) ((p.den : Int) * (q.den : Int)) = p * q := by
  rw [Rat.mul_def', show (p.den : Int) * (q.den : Int) = ((p.den * q.den : Nat) : Int) by simp, Rat.divInt_ofNat]
theorem q_neg (p : Rat) : Rat.divInt (-p.num) (p.den : Int) = -p := by
  rw [Rat.divInt_ofNat, ← Rat.neg_mkRat, Rat.mkRat_self]
theorem q_over (p q : Rat) : Rat.divInt (p.num * (q.den : Int)) ((p.den : Int) * q.num) = p / q := by
  rw [Rat.div_def, Rat.inv_def, ← Rat.divInt_mul_divInt, Rat.num_divInt_den]
theorem q_int (i : Int) : Rat.divInt i 1 = (i : Rat) := by
  rw [Rat.divInt_eq_div]
  show (i : Rat) / ((1 : Int) : Rat) = i
  rw [Rat.intCast_one, Rat.div_def]
  have : (1 : Rat)⁻¹ = 1 := Rat.inv_eq_of_mul_eq_one (Rat.mul_one 1)
  rw [this, Rat.mul_one]
theorem q_den0 (p : Rat) : (p.den : Int) ≠ 0 := by
  have := p.den_pos
  omega
theorem q_eq (p q : Rat) : (decide (p.num = q.num) && decide ((p.den : Int) = (q.den : Int))) = decide (p = q) := by
  by_cases h : p = q
  · subst h; simp
  · rw [decide_eq_false h]
    cases e1 : decide (p.num = q.num) with
    | false => rfl
    | true =>
      cases e2 : decide ((p.den : Int) = (q.den : Int)) with
      | false => rfl
      | true =>
        have h1 := of_decide_eq_true e1
        have h2 := of_decide_eq_true e2
        exact absurd (Rat.ext h1 (by omega)) h
theorem gcd_fmod (a b : Int) (h : b ≠ 0) : Int.gcd b (a.fmod b) = Int.gcd a b := by
  rw [Int.gcd_comm a b]
  have e : a.fmod b = a + -(a.fdiv b) * b := by
    have := Int.fmod_add_mul_fdiv a b
    rw [Int.neg_mul, Int.mul_comm (a.fdiv b) b]
    omega
  rw [e, Int.gcd_add_mul_right_right]
theorem fmod_less {x y : Int} (hy : y ≠ 0) : (x.fmod y).natAbs < y.natAbs := by
  rcases Int.lt_or_gt_of_ne hy with h | h
  · have e : x.fmod y = -((-x).fmod (-y)) := by
      have := Int.neg_fmod_neg (a := x) (b := y)
      omega
    have h1 := Int.fmod_nonneg_of_pos (-x) (b := -y) (by omega)
    have h2 := Int.fmod_lt_of_pos (-x) (b := -y) (by omega)
    omega
  · have h1 := Int.fmod_nonneg_of_pos x h
    have h2 := Int.fmod_lt_of_pos x h
    omega
/-- a loop that finds the common divisor -/
theorem wh_gcd {c : Env → T Bool} {body : Env → Cs → TS} {G : Cs} (st : Int → Int → Env) (P : Int → Int → Prop) (hc : ∀ a b, P a b → c (st a b) G = some (.ok (!decide (b = 0)), G))
    (hb : ∀ a b, P a b → b ≠ 0 → body (st a b) G = some (.nx, st b (a.fmod b), G) ∧ P b (a.fmod b)) : ∀ (k : Nat) (a b : Int), P a b → b.natAbs < k → ∃ x : Int, x.natAbs = Int.gcd a b ∧ P x 0 ∧ wh c body (st a b) G = some (.nx, st x 0, G) := by
  intro k
  induction k with
  | zero => intro a b _ h; omega
  | succ k ih =>
    intro a b hp hk
    rw [wh_eq, lift_ap, hc a b hp]
    by_cases h0 : b = 0
    · subst h0
      exact ⟨a, by simp, hp, rfl⟩
    · obtain ⟨h1, h2⟩ := hb a b hp h0
      have := fmod_less (x := a) h0
      obtain ⟨x, h3, h4, h5⟩ := ih b (a.fmod b) h2 (by omega)
      refine ⟨x, by rw [h3, gcd_fmod a b h0], h4, ?_⟩
      rw [decide_eq_false h0]
      dsimp only [Bool.not_false, cond_t]
      rw [h1]
      exact h5
/-- what the divisor of a quotient in the making must keep to -/
def SzQ (t b : Int) : Prop := (Int.gcd t b).log2 < 9000
def szM (a b : Int) : Prop := a.natAbs.log2 + b.natAbs.log2 < 1000000
section
variable {Γ : Pg} {n : Nat} {G : Cs}
theorem abs_nat (i : Int) : (if i < 0 then -i else i) = (i.natAbs : Int) := by
  split <;> omega
theorem c_gcd (P : RatPg Γ) (a b : Int) : call Γ true (n + 1) (.g "common_divisor") [.d (.int a), .d (.int b)] G = some (.ok (.d (.int (Int.gcd a b : Int))), G) := by
  rw [call_g P.common_divisor rfl]
  obtain ⟨x, h1, _, h2⟩ := wh_gcd (c := fun ρ => T.bind (eX true (hd Γ true n) Q.x0_common_divisor ρ) asB) (body := fun ρ G' => eSs true (hd Γ true n) G.length Q.s1_common_divisor ρ G') (G := G) (fun a b => [some (.d (.int a)), some (.d (.int b))]) (fun _ _ => True)
    (fun a b _ => by simp only [↓bind_ap, ↓ask_ap, ↓lift_ap, ↓sure_ap, pure_ap, stuck_ap, ↓cond_m, eX, eXs, eDs, eXo, eXt, eIt, eS, eSs, eHs, store, getV, fin, finD, asB, asI, Rv.frz, see, liftO, List.getElem?_cons_zero, List.getElem?_cons_succ, List.set_cons_zero, List.set_cons_succ, List.take_length, handed, start, List.map_cons, List.map_nil, List.length_cons, List.length_nil, List.replicate, List.cons_append, List.nil_append, List.append_nil, Nat.reduceAdd, Nat.reduceSub, hd_call, hd_cls, hd_exm, hd_has, Q.x0_common_divisor, eCmp, cmpD])
    (fun a b _ hb => by
      refine ⟨?_, trivial⟩
      simp only [↓bind_ap, ↓ask_ap, ↓lift_ap, ↓sure_ap, pure_ap, stuck_ap, ↓cond_m, eX, eXs, eDs, eXo, eXt, eIt, eS, eSs, eHs, store, getV, fin, finD, asB, asI, Rv.frz, see, liftO, List.getElem?_cons_zero, List.getElem?_cons_succ, List.set_cons_zero, List.set_cons_succ, List.take_length, handed, start, List.map_cons, List.map_nil, List.length_cons, List.length_nil, List.replicate, List.cons_append, List.nil_append, List.append_nil, Nat.reduceAdd, Nat.reduceSub, hd_call, hd_cls, hd_exm, hd_has, Q.s1_common_divisor, parK, setAll, eBin, binD, intBin, askO, decide_eq_true hb, Option.map])
    (b.natAbs + 1) a b trivial (by omega)
  simp only [↓bind_ap, ↓ask_ap, ↓lift_ap, ↓sure_ap, pure_ap, stuck_ap, ↓cond_m, eX, eXs, eDs, eXo, eXt, eIt, eS, eSs, eHs, store, getV, fin, finD, asB, asI, Rv.frz, see, liftO, List.getElem?_cons_zero, List.getElem?_cons_succ, List.set_cons_zero, List.set_cons_succ, List.take_length, handed, start, List.map_cons, List.map_nil, List.length_cons, List.length_nil, List.replicate, List.cons_append, List.nil_append, List.append_nil, Nat.reduceAdd, Nat.reduceSub, hd_call, hd_cls, hd_exm, hd_has, runF, Q.fd_common_divisor, Q.b_common_divisor, h2, eBlt, List.mapM_cons, List.mapM_nil, Option.pure_def, Option.bind_eq_bind, Option.bind_some, bltD, abs_nat, h1]
/-- own_top, own_bottom -/
theorem putF_top (v : D) : putF "own_top" v [] [] = ((["own_top"] : List Str), [v]) := rfl
theorem putF_bot (u v : D) : putF "own_bottom" v ["own_top"] [u] = ((["own_top", "own_bottom"] : List Str), [u, v]) := by
  simp only [putF, neTB, if_false]
theorem c_mk (P : RatPg Γ) (t b : Int) (h0 : b ≠ 0) (hs : SzQ t b) : call Γ true (n + 2) (.k "Ratio") [.d (.int t), .d (.int b)] G = some (.ok (.n (ratD (Rat.divInt t b))), G) := by
  rw [call_k P.Ratio___init__ rfl]
  have hr : decide ((rdiv t b).natAbs.log2 < 9000) = true := decide_eq_true (by rw [rdiv_abs]; exact hs)
  have hn : decide (rdiv t b ≠ 0) = true := decide_eq_true (rdiv_ne h0)
  by_cases hb : b < 0
  · have e : -(Int.gcd t b : Int) = rdiv t b := by unfold rdiv; rw [if_pos hb]
    simp only [↓bind_ap, ↓ask_ap, ↓lift_ap, ↓sure_ap, pure_ap, stuck_ap, ↓cond_m, eX, eXs, eDs, eXo, eXt, eIt, eS, eSs, eHs, store, getV, fin, finD, asB, asI, Rv.frz, see, liftO, List.getElem?_cons_zero, List.getElem?_cons_succ, List.set_cons_zero, List.set_cons_succ, List.take_length, handed, start, List.map_cons, List.map_nil, List.length_cons, List.length_nil, List.replicate, List.cons_append, List.nil_append, List.append_nil, Nat.reduceAdd, Nat.reduceSub, hd_call, hd_cls, hd_exm, hd_has, runK, runF, Q.fd_Ratio___init__, Q.b_Ratio___init__, eCmp, cmpD, decide_eq_false h0, decide_eq_true hb, c_gcd P, eNeg, e, eBin, binD, intBin, askO, hr, hn, Bool.and_self, Option.map, get_last, set_last, take_last, take_all, P.cls, putF_top, putF_bot, Bool.and_true, Nat.reduceLT, decide_true, rdiv_num h0, rdiv_den h0, ratD]
  · have e : (Int.gcd t b : Int) = rdiv t b := by unfold rdiv; rw [if_neg hb]
    simp only [↓bind_ap, ↓ask_ap, ↓lift_ap, ↓sure_ap, pure_ap, stuck_ap, ↓cond_m, eX, eXs, eDs, eXo, eXt, eIt, eS, eSs, eHs, store, getV, fin, finD, asB, asI, Rv.frz, see, liftO, List.getElem?_cons_zero, List.getElem?_cons_succ, List.set_cons_zero, List.set_cons_succ, List.take_length, handed, start, List.map_cons, List.map_nil, List.length_cons, List.length_nil, List.replicate, List.cons_append, List.nil_append, List.append_nil, Nat.reduceAdd, Nat.reduceSub, hd_call, hd_cls, hd_exm, hd_has, runK, runF, Q.fd_Ratio___init__, Q.b_Ratio___init__, eCmp, cmpD, decide_eq_false h0, decide_eq_false hb, c_gcd P, eNeg, e, eBin, binD, intBin, askO, hr, hn, Bool.and_self, Option.map, get_last, set_last, take_last, take_all, P.cls, putF_top, putF_bot, Bool.and_true, Nat.reduceLT, decide_true, rdiv_num h0, rdiv_den h0, ratD]
theorem c_mk0 (P : RatPg Γ) (t : Int) : call Γ true (n + 1) (.k "Ratio") [.d (.int t), .d (.int 0)] G = some (.error ⟨"ByZero", [], []⟩, G) := by
  rw [call_k P.Ratio___init__ rfl]
  simp only [↓bind_ap, ↓ask_ap, ↓lift_ap, ↓sure_ap, pure_ap, stuck_ap, ↓cond_m, eX, eXs, eDs, eXo, eXt, eIt, eS, eSs, eHs, store, getV, fin, finD, asB, asI, Rv.frz, see, liftO, List.getElem?_cons_zero, List.getElem?_cons_succ, List.set_cons_zero, List.set_cons_succ, List.take_length, handed, start, List.map_cons, List.map_nil, List.length_cons, List.length_nil, List.replicate, List.cons_append, List.nil_append, List.append_nil, Nat.reduceAdd, Nat.reduceSub, hd_call, hd_cls, hd_exm, hd_has, runK, runF, Q.fd_Ratio___init__, Q.b_Ratio___init__, eCmp, cmpD, decide_true, List.reverse_nil, take_last, List.take_left']
theorem szQ_one (t : Int) : SzQ t 1 := by
  unfold SzQ
  rw [Int.gcd_one]
  decide
theorem c_mk1 (P : RatPg Γ) (t : Int) : call Γ true (n + 2) (.k "Ratio") [.d (.int t)] G = some (.ok (.n (ratD t)), G) := by
  have h := c_mk (n := n) (G := G) P t 1 (by decide) (szQ_one t)
  rw [call_k P.Ratio___init__ rfl] at h
  rw [call_k P.Ratio___init__ rfl, ← q_int]
  exact h
end
end L4

set_option Elab.async false
set_option linter.all false
set_option maxRecDepth 100000
set_option maxHeartbeats 4000000
/-! Quotients: what the operators answer. -/
namespace L4
open PySem PySem.Spec PyProof.Rows L2
/-- a datum whose kind is known -/
def okD (Γ : Pg) (d : D) : Bool := (tagOf d).isSome || (match insOf d with
  | some C => Γ.cls C
  | none => false)
def isIntD : D → Bool
  | .int _ => true
  | _ => false
def isBoolD : D → Bool
  | .bool _ => true
  | _ => false
def isRatD : D → Bool
  | .ins C _ _ => decide (C = "Ratio")
  | _ => false
/-- a number of the text -/
inductive Num : D → Rat → Prop where
  | rat (r : Rat) : Num (ratD r) r
  | int (i : Int) : Num (.int i) i
section
variable {Γ : Pg} {n : Nat} {G : Cs}
theorem isT_int (d : D) (ok : okD Γ d = true) : isT (hd Γ true n) (.bt "int" "int") d = some (isIntD d || isBoolD d) := by
  cases d <;> first | rfl | skip
  case scr => cases ok
  case ty => cases ok
  case cl => cases ok
  case ins C ns vs =>
    have : Γ.cls C = true := ok
    simp only [isT, tagOf, insOf, hd_cls, this, cond_t, isIntD, isBoolD, Bool.or_self]
theorem isT_bool (d : D) (ok : okD Γ d = true) : isT (hd Γ true n) (.bt "bool" "bool") d = some (isBoolD d) := by
  cases d <;> first | rfl | skip
  case scr => cases ok
  case ty => cases ok
  case cl => cases ok
  case ins C ns vs =>
    have : Γ.cls C = true := ok
    simp only [isT, tagOf, insOf, hd_cls, this, cond_t, isBoolD]
theorem isT_rat (d : D) (ok : okD Γ d = true) : isT (hd Γ true n) (.cl "Ratio") d = some (isRatD d) := by
  cases d <;> first | rfl | skip
  case scr => cases ok
  case ty => cases ok
  case cl => cases ok
  case ins C ns vs =>
    have : Γ.cls C = true := ok
    simp only [isT, tagOf, insOf, hd_cls, this, cond_t, isRatD]
theorem int_bool (d : D) : isBoolD d = true → isIntD d = false := by cases d <;> simp [isBoolD, isIntD]
theorem c_is_integer (P : RatPg Γ) (d : D) (ok : okD Γ d = true) : call Γ true (n + 1) (.g "is_integer") [.d d] G = some (.ok (.d (.bool (isIntD d))), G) := by
  rw [call_g P.is_integer rfl]
  cases hb : isBoolD d with
  | true => simp only [↓bind_ap, ↓ask_ap, ↓lift_ap, ↓sure_ap, pure_ap, stuck_ap, ↓cond_m, eX, eXs, eDs, eXo, eXt, eIt, eS, eSs, eHs, store, getV, fin, finD, asB, asI, Rv.frz, see, liftO, List.getElem?_cons_zero, List.getElem?_cons_succ, List.set_cons_zero, List.set_cons_succ, List.take_length, handed, start, List.map_cons, List.map_nil, List.length_cons, List.length_nil, List.replicate, List.cons_append, List.nil_append, List.append_nil, Nat.reduceAdd, Nat.reduceSub, hd_call, hd_cls, hd_exm, hd_has, runF, Q.fd_is_integer, Q.b_is_integer, Option.bind, isT_int d ok, isT_bool d ok, hb, Bool.or_true, Bool.not_true, int_bool d hb]
  | false =>
    cases hi : isIntD d with
    | true => simp only [↓bind_ap, ↓ask_ap, ↓lift_ap, ↓sure_ap, pure_ap, stuck_ap, ↓cond_m, eX, eXs, eDs, eXo, eXt, eIt, eS, eSs, eHs, store, getV, fin, finD, asB, asI, Rv.frz, see, liftO, List.getElem?_cons_zero, List.getElem?_cons_succ, List.set_cons_zero, List.set_cons_succ, List.take_length, handed, start, List.map_cons, List.map_nil, List.length_cons, List.length_nil, List.replicate, List.cons_append, List.nil_append, List.append_nil, Nat.reduceAdd, Nat.reduceSub, hd_call, hd_cls, hd_exm, hd_has, runF, Q.fd_is_integer, Q.b_is_integer, Option.bind, isT_int d ok, isT_bool d ok, hb, hi, Bool.or_false, Bool.not_false]
    | false => simp only [↓bind_ap, ↓ask_ap, ↓lift_ap, ↓sure_ap, pure_ap, stuck_ap, ↓cond_m, eX, eXs, eDs, eXo, eXt, eIt, eS, eSs, eHs, store, getV, fin, finD, asB, asI, Rv.frz, see, liftO, List.getElem?_cons_zero, List.getElem?_cons_succ, List.set_cons_zero, List.set_cons_succ, List.take_length, handed, start, List.map_cons, List.map_nil, List.length_cons, List.length_nil, List.replicate, List.cons_append, List.nil_append, List.append_nil, Nat.reduceAdd, Nat.reduceSub, hd_call, hd_cls, hd_exm, hd_has, runF, Q.fd_is_integer, Q.b_is_integer, Option.bind, isT_int d ok, isT_bool d ok, hb, hi, Bool.or_false, Bool.not_false]
theorem c_is_number (P : RatPg Γ) (d : D) (ok : okD Γ d = true) : call Γ true (n + 2) (.g "is_number") [.d d] G = some (.ok (.d (.bool (isIntD d || isRatD d))), G) := by
  rw [call_g P.is_number rfl]
  cases hi : isIntD d with
  | true => simp only [↓bind_ap, ↓ask_ap, ↓lift_ap, ↓sure_ap, pure_ap, stuck_ap, ↓cond_m, eX, eXs, eDs, eXo, eXt, eIt, eS, eSs, eHs, store, getV, fin, finD, asB, asI, Rv.frz, see, liftO, List.getElem?_cons_zero, List.getElem?_cons_succ, List.set_cons_zero, List.set_cons_succ, List.take_length, handed, start, List.map_cons, List.map_nil, List.length_cons, List.length_nil, List.replicate, List.cons_append, List.nil_append, List.append_nil, Nat.reduceAdd, Nat.reduceSub, hd_call, hd_cls, hd_exm, hd_has, runF, Q.fd_is_number, Q.b_is_number, Option.bind, c_is_integer P d ok, hi, Bool.true_or]
  | false => simp only [↓bind_ap, ↓ask_ap, ↓lift_ap, ↓sure_ap, pure_ap, stuck_ap, ↓cond_m, eX, eXs, eDs, eXo, eXt, eIt, eS, eSs, eHs, store, getV, fin, finD, asB, asI, Rv.frz, see, liftO, List.getElem?_cons_zero, List.getElem?_cons_succ, List.set_cons_zero, List.set_cons_succ, List.take_length, handed, start, List.map_cons, List.map_nil, List.length_cons, List.length_nil, List.replicate, List.cons_append, List.nil_append, List.append_nil, Nat.reduceAdd, Nat.reduceSub, hd_call, hd_cls, hd_exm, hd_has, runF, Q.fd_is_number, Q.b_is_number, Option.bind, c_is_integer P d ok, hi, isT_rat d ok, Bool.false_or]
theorem ok_rat (P : RatPg Γ) (r : Rat) : okD Γ (ratD r) = true := by
  show (_ || _) = true
  rw [show insOf (ratD r) = some "Ratio" from rfl]
  simp [P.cls]
theorem is_rat (r : Rat) : isRatD (ratD r) = true := rfl
theorem c_as_rat (P : RatPg Γ) (r : Rat) : call Γ true (n + 3) (.g "as_ratio") [.d (ratD r)] G = some (.ok (.d (ratD r)), G) := by
  rw [call_g P.as_ratio rfl]
  simp only [↓bind_ap, ↓ask_ap, ↓lift_ap, ↓sure_ap, pure_ap, stuck_ap, ↓cond_m, eX, eXs, eDs, eXo, eXt, eIt, eS, eSs, eHs, store, getV, fin, finD, asB, asI, Rv.frz, see, liftO, List.getElem?_cons_zero, List.getElem?_cons_succ, List.set_cons_zero, List.set_cons_succ, List.take_length, handed, start, List.map_cons, List.map_nil, List.length_cons, List.length_nil, List.replicate, List.cons_append, List.nil_append, List.append_nil, Nat.reduceAdd, Nat.reduceSub, hd_call, hd_cls, hd_exm, hd_has, runF, Q.fd_as_ratio, Q.b_as_ratio, Option.bind, c_is_number P _ (ok_rat P r), is_rat, Bool.or_true, Bool.not_true, isT_rat _ (ok_rat P r)]
theorem c_as_int (P : RatPg Γ) (i : Int) : call Γ true (n + 3) (.g "as_ratio") [.d (.int i)] G = some (.ok (.n (ratD i)), G) := by
  rw [call_g P.as_ratio rfl]
  simp only [↓bind_ap, ↓ask_ap, ↓lift_ap, ↓sure_ap, pure_ap, stuck_ap, ↓cond_m, eX, eXs, eDs, eXo, eXt, eIt, eS, eSs, eHs, store, getV, fin, finD, asB, asI, Rv.frz, see, liftO, List.getElem?_cons_zero, List.getElem?_cons_succ, List.set_cons_zero, List.set_cons_succ, List.take_length, handed, start, List.map_cons, List.map_nil, List.length_cons, List.length_nil, List.replicate, List.cons_append, List.nil_append, List.append_nil, Nat.reduceAdd, Nat.reduceSub, hd_call, hd_cls, hd_exm, hd_has, runF, Q.fd_as_ratio, Q.b_as_ratio, Option.bind, c_is_number P (.int i) rfl, isIntD, Bool.true_or, Bool.not_true, isT_rat (.int i) rfl, isRatD, c_mk1 P]
theorem c_as_bad (P : RatPg Γ) (d : D) (ok : okD Γ d = true) (h1 : isIntD d = false) (h2 : isRatD d = false) : call Γ true (n + 3) (.g "as_ratio") [.d d] G = some (.error ⟨"BadNumber", ["given"], [d]⟩, G) := by
  rw [call_g P.as_ratio rfl]
  simp only [↓bind_ap, ↓ask_ap, ↓lift_ap, ↓sure_ap, pure_ap, stuck_ap, ↓cond_m, eX, eXs, eDs, eXo, eXt, eIt, eS, eSs, eHs, store, getV, fin, finD, asB, asI, Rv.frz, see, liftO, List.getElem?_cons_zero, List.getElem?_cons_succ, List.set_cons_zero, List.set_cons_succ, List.take_length, handed, start, List.map_cons, List.map_nil, List.length_cons, List.length_nil, List.replicate, List.cons_append, List.nil_append, List.append_nil, Nat.reduceAdd, Nat.reduceSub, hd_call, hd_cls, hd_exm, hd_has, runF, Q.fd_as_ratio, Q.b_as_ratio, Option.bind, c_is_number P d ok, h1, h2, Bool.or_self, Bool.not_false, decide_true, List.reverse_cons, List.reverse_nil]
/-! ### bounds -/
/-- parts that are not too long -/
def Sm (k : Nat) (r : Rat) : Prop := r.num.natAbs < 2 ^ k ∧ r.den < 2 ^ k
theorem log_lt {a k : Nat} (h : a < 2 ^ k) (hk : 0 < k) : a.log2 < k := by
  by_cases h0 : a = 0
  · subst h0; simpa using hk
  · exact (Nat.log2_lt h0).mpr h
theorem szM_of {a b : Int} {k : Nat} (ha : a.natAbs < 2 ^ k) (hb : b.natAbs < 2 ^ k) (hk : k ≤ 4000) (h0 : 0 < k := by omega) : decide (a.natAbs.log2 + b.natAbs.log2 < 1000000) = true := by
  have := log_lt ha h0
  have := log_lt hb h0
  exact decide_eq_true (by omega)
theorem szQ_of {t b : Int} (hb : b.natAbs < 2 ^ 8000) (h0 : b ≠ 0) : SzQ t b := by
  have h1 : Int.gcd t b ≤ b.natAbs := Int.gcd_le_natAbs_right t h0
  have := log_lt (Nat.lt_of_le_of_lt h1 hb) (by omega)
  unfold SzQ
  omega
theorem mul_lt {a b : Int} (ha : a.natAbs < 2 ^ 4000) (hb : b.natAbs < 2 ^ 4000) : (a * b).natAbs < 2 ^ 8000 := by
  rw [Int.natAbs_mul, show (8000 : Nat) = 4000 + 4000 from rfl, Nat.pow_add]
  exact Nat.mul_lt_mul'' ha hb
theorem den_mul (p q : Rat) : (p.den : Int) * (q.den : Int) ≠ 0 := Int.mul_ne_zero (q_den0 p) (q_den0 q)
/-! ### nodes at a quotient -/
theorem prp_top (P : RatPg Γ) (r : Rat) : ePrp (hd Γ true (n + 1)) (.d (ratD r)) "top" G = some (.ok (.d (.int r.num)), G) := by
  show (match T.ask (Γ.cls "Ratio") (call Γ true (n + 1) (.p "Ratio" "top") [.d (ratD r)]) G with
    | some (.ok w, G1) => some (Except.ok w, G1)
    | _ => none) = _
  rw [P.cls, ask_ap, cond_t, c_top P]
theorem prp_bottom (P : RatPg Γ) (r : Rat) : ePrp (hd Γ true (n + 1)) (.d (ratD r)) "bottom" G = some (.ok (.d (.int (r.den : Int))), G) := by
  show (match T.ask (Γ.cls "Ratio") (call Γ true (n + 1) (.p "Ratio" "bottom") [.d (ratD r)]) G with
    | some (.ok w, G1) => some (Except.ok w, G1)
    | _ => none) = _
  rw [P.cls, ask_ap, cond_t, c_bottom P]
theorem num_ok {d : D} {s : Rat} (hd : Num d s) : (isI d || decide (insOf d = some ("Ratio" : Str))) = true := by
  cases hd with
  | rat => rfl
  | int => rfl
theorem num_okC {d : D} {s : Rat} (hd : Num d s) : ((tagOf d).isSome || decide (insOf d = some ("Ratio" : Str))) = true := by
  cases hd with
  | rat => rfl
  | int => rfl
theorem bin_rat (P : RatPg Γ) {o : Operator} {nm : Str} {r s : Rat} {d : D} (h : dunder o = some nm) (hn : Num d s) : eBin (hd Γ true n) o (.d (ratD r)) (.d d) G = call Γ true n (.m "Ratio" nm) [.d (ratD r), .d d] G := by
  show (match dunder o with
    | some nm => T.ask (Γ.cls "Ratio" && (isI d || decide (insOf d = some ("Ratio" : Str)))) (call Γ true n (.m "Ratio" nm) [.d (ratD r), .d d]) G
    | none => none) = _
  rw [h, P.cls, num_ok hn]
  rfl
theorem neg_rat (P : RatPg Γ) {r : Rat} : eNeg (hd Γ true n) (.d (ratD r)) G = call Γ true n (.m "Ratio" "__neg__") [.d (ratD r)] G := by
  show T.ask (Γ.cls "Ratio") (call Γ true n (.m "Ratio" "__neg__") [.d (ratD r)]) G = _
  rw [P.cls]
  rfl
theorem cmp_rat (P : RatPg Γ) {o : CmpOp} {nm : Str} {pos : Bool} {r : Rat} {d : D} {c : Bool} (h : cmpOwn o = some (nm, pos)) (hn : ((tagOf d).isSome || decide (insOf d = some ("Ratio" : Str))) = true) (hc : call Γ true n (.m "Ratio" nm) [.d (ratD r), .d d] G = some (.ok (.d (.bool c)), G)) :
    eCmp (hd Γ true n) o (.d (ratD r)) (.d d) G = some (.ok (.d (.bool (c == pos))), G) := by
  unfold ratD at hc ⊢
  simp only [eCmp, see, h, hd_cls, hd_call, P.cls, hn, Bool.and_self, ↓bind_ap, T.ask_true, hc, pure_ap]
theorem c_add (P : RatPg Γ) {r s : Rat} {d : D} (hd : Num d s) (hr : Sm 4000 r) (hs : Sm 4000 s) : call Γ true (n + 4) (.m "Ratio" "__add__") [.d (ratD r), .d d] G = some (.ok (.n (ratD (r + s))), G) := by
  rw [call_m P.Ratio___add__ rfl]
  have m0 := szM_of (k := 4000) (a := r.num) (b := s.num) hr.1 hs.1 (by omega)
  have m1 := szM_of (k := 4000) (a := r.num) (b := (s.den : Int)) hr.1 hs.2 (by omega)
  have m2 := szM_of (k := 4000) (a := s.num) (b := (r.den : Int)) hs.1 hr.2 (by omega)
  have m3 := szM_of (k := 4000) (a := (r.den : Int)) (b := (s.den : Int)) hr.2 hs.2 (by omega)
  have k := c_mk (Γ := Γ) (n := n + 1) (G := G) P (r.num * (s.den : Int) + s.num * (r.den : Int)) ((r.den : Int) * (s.den : Int)) (den_mul r s) (szQ_of (mul_lt hr.2 hs.2) (den_mul r s))
  rw [q_add] at k
  cases hd with
  | rat => simp only [↓bind_ap, ↓ask_ap, ↓lift_ap, ↓sure_ap, pure_ap, stuck_ap, ↓cond_m, eX, eXs, eDs, eXo, eXt, eIt, eS, eSs, eHs, store, getV, fin, finD, asB, asI, Rv.frz, see, liftO, List.getElem?_cons_zero, List.getElem?_cons_succ, List.set_cons_zero, List.set_cons_succ, List.take_length, handed, start, List.map_cons, List.map_nil, List.length_cons, List.length_nil, List.replicate, List.cons_append, List.nil_append, List.append_nil, Nat.reduceAdd, Nat.reduceSub, hd_call, hd_cls, hd_exm, hd_has, runF, Q.fd_Ratio___add__, Q.b_Ratio___add__, c_as_rat P, prp_top P, prp_bottom P, eBin, binD, intBin, askO, m0, m1, m2, m3, Option.map, k]
  | int i => simp only [↓bind_ap, ↓ask_ap, ↓lift_ap, ↓sure_ap, pure_ap, stuck_ap, ↓cond_m, eX, eXs, eDs, eXo, eXt, eIt, eS, eSs, eHs, store, getV, fin, finD, asB, asI, Rv.frz, see, liftO, List.getElem?_cons_zero, List.getElem?_cons_succ, List.set_cons_zero, List.set_cons_succ, List.take_length, handed, start, List.map_cons, List.map_nil, List.length_cons, List.length_nil, List.replicate, List.cons_append, List.nil_append, List.append_nil, Nat.reduceAdd, Nat.reduceSub, hd_call, hd_cls, hd_exm, hd_has, runF, Q.fd_Ratio___add__, Q.b_Ratio___add__, c_as_int P, prp_top P, prp_bottom P, eBin, binD, intBin, askO, m0, m1, m2, m3, Option.map, k]
theorem c_sub (P : RatPg Γ) {r s : Rat} {d : D} (hd : Num d s) (hr : Sm 4000 r) (hs : Sm 4000 s) : call Γ true (n + 4) (.m "Ratio" "__sub__") [.d (ratD r), .d d] G = some (.ok (.n (ratD (r - s))), G) := by
  rw [call_m P.Ratio___sub__ rfl]
  have m0 := szM_of (k := 4000) (a := r.num) (b := s.num) hr.1 hs.1 (by omega)
  have m1 := szM_of (k := 4000) (a := r.num) (b := (s.den : Int)) hr.1 hs.2 (by omega)
  have m2 := szM_of (k := 4000) (a := s.num) (b := (r.den : Int)) hs.1 hr.2 (by omega)
  have m3 := szM_of (k := 4000) (a := (r.den : Int)) (b := (s.den : Int)) hr.2 hs.2 (by omega)
  have k := c_mk (Γ := Γ) (n := n + 1) (G := G) P (r.num * (s.den : Int) - s.num * (r.den : Int)) ((r.den : Int) * (s.den : Int)) (den_mul r s) (szQ_of (mul_lt hr.2 hs.2) (den_mul r s))
  rw [q_sub] at k
  cases hd with
  | rat => simp only [↓bind_ap, ↓ask_ap, ↓lift_ap, ↓sure_ap, pure_ap, stuck_ap, ↓cond_m, eX, eXs, eDs, eXo, eXt, eIt, eS, eSs, eHs, store, getV, fin, finD, asB, asI, Rv.frz, see, liftO, List.getElem?_cons_zero, List.getElem?_cons_succ, List.set_cons_zero, List.set_cons_succ, List.take_length, handed, start, List.map_cons, List.map_nil, List.length_cons, List.length_nil, List.replicate, List.cons_append, List.nil_append, List.append_nil, Nat.reduceAdd, Nat.reduceSub, hd_call, hd_cls, hd_exm, hd_has, runF, Q.fd_Ratio___sub__, Q.b_Ratio___sub__, c_as_rat P, prp_top P, prp_bottom P, eBin, binD, intBin, askO, m0, m1, m2, m3, Option.map, k]
  | int i => simp only [↓bind_ap, ↓ask_ap, ↓lift_ap, ↓sure_ap, pure_ap, stuck_ap, ↓cond_m, eX, eXs, eDs, eXo, eXt, eIt, eS, eSs, eHs, store, getV, fin, finD, asB, asI, Rv.frz, see, liftO, List.getElem?_cons_zero, List.getElem?_cons_succ, List.set_cons_zero, List.set_cons_succ, List.take_length, handed, start, List.map_cons, List.map_nil, List.length_cons, List.length_nil, List.replicate, List.cons_append, List.nil_append, List.append_nil, Nat.reduceAdd, Nat.reduceSub, hd_call, hd_cls, hd_exm, hd_has, runF, Q.fd_Ratio___sub__, Q.b_Ratio___sub__, c_as_int P, prp_top P, prp_bottom P, eBin, binD, intBin, askO, m0, m1, m2, m3, Option.map, k]
theorem c_mul (P : RatPg Γ) {r s : Rat} {d : D} (hd : Num d s) (hr : Sm 4000 r) (hs : Sm 4000 s) : call Γ true (n + 4) (.m "Ratio" "__mul__") [.d (ratD r), .d d] G = some (.ok (.n (ratD (r * s))), G) := by
  rw [call_m P.Ratio___mul__ rfl]
  have m0 := szM_of (k := 4000) (a := r.num) (b := s.num) hr.1 hs.1 (by omega)
  have m1 := szM_of (k := 4000) (a := r.num) (b := (s.den : Int)) hr.1 hs.2 (by omega)
  have m2 := szM_of (k := 4000) (a := s.num) (b := (r.den : Int)) hs.1 hr.2 (by omega)
  have m3 := szM_of (k := 4000) (a := (r.den : Int)) (b := (s.den : Int)) hr.2 hs.2 (by omega)
  have k := c_mk (Γ := Γ) (n := n + 1) (G := G) P (r.num * s.num) ((r.den : Int) * (s.den : Int)) (den_mul r s) (szQ_of (mul_lt hr.2 hs.2) (den_mul r s))
  rw [q_mul] at k
  cases hd with
  | rat => simp only [↓bind_ap, ↓ask_ap, ↓lift_ap, ↓sure_ap, pure_ap, stuck_ap, ↓cond_m, eX, eXs, eDs, eXo, eXt, eIt, eS, eSs, eHs, store, getV, fin, finD, asB, asI, Rv.frz, see, liftO, List.getElem?_cons_zero, List.getElem?_cons_succ, List.set_cons_zero, List.set_cons_succ, List.take_length, handed, start, List.map_cons, List.map_nil, List.length_cons, List.length_nil, List.replicate, List.cons_append, List.nil_append, List.append_nil, Nat.reduceAdd, Nat.reduceSub, hd_call, hd_cls, hd_exm, hd_has, runF, Q.fd_Ratio___mul__, Q.b_Ratio___mul__, c_as_rat P, prp_top P, prp_bottom P, eBin, binD, intBin, askO, m0, m1, m2, m3, Option.map, k]
  | int i => simp only [↓bind_ap, ↓ask_ap, ↓lift_ap, ↓sure_ap, pure_ap, stuck_ap, ↓cond_m, eX, eXs, eDs, eXo, eXt, eIt, eS, eSs, eHs, store, getV, fin, finD, asB, asI, Rv.frz, see, liftO, List.getElem?_cons_zero, List.getElem?_cons_succ, List.set_cons_zero, List.set_cons_succ, List.take_length, handed, start, List.map_cons, List.map_nil, List.length_cons, List.length_nil, List.replicate, List.cons_append, List.nil_append, List.append_nil, Nat.reduceAdd, Nat.reduceSub, hd_call, hd_cls, hd_exm, hd_has, runF, Q.fd_Ratio___mul__, Q.b_Ratio___mul__, c_as_int P, prp_top P, prp_bottom P, eBin, binD, intBin, askO, m0, m1, m2, m3, Option.map, k]
theorem c_over (P : RatPg Γ) {r s : Rat} {d : D} (hd : Num d s) (h0 : s ≠ 0) (hr : Sm 4000 r) (hs : Sm 4000 s) : call Γ true (n + 4) (.m "Ratio" "over") [.d (ratD r), .d d] G = some (.ok (.n (ratD (r / s))), G) := by
  rw [call_m P.Ratio_over rfl]
  have z : s.num ≠ 0 := fun z => h0 (Rat.num_eq_zero.mp z)
  have m1 := szM_of (k := 4000) (a := r.num) (b := (s.den : Int)) hr.1 hs.2 (by omega)
  have m3 := szM_of (k := 4000) (a := (r.den : Int)) (b := s.num) hr.2 hs.1 (by omega)
  have nz : (r.den : Int) * s.num ≠ 0 := Int.mul_ne_zero (q_den0 r) z
  have k := c_mk (Γ := Γ) (n := n + 1) (G := G) P (r.num * (s.den : Int)) ((r.den : Int) * s.num) nz (szQ_of (mul_lt hr.2 hs.1) nz)
  rw [q_over] at k
  cases hd with
  | rat => simp only [↓bind_ap, ↓ask_ap, ↓lift_ap, ↓sure_ap, pure_ap, stuck_ap, ↓cond_m, eX, eXs, eDs, eXo, eXt, eIt, eS, eSs, eHs, store, getV, fin, finD, asB, asI, Rv.frz, see, liftO, List.getElem?_cons_zero, List.getElem?_cons_succ, List.set_cons_zero, List.set_cons_succ, List.take_length, handed, start, List.map_cons, List.map_nil, List.length_cons, List.length_nil, List.replicate, List.cons_append, List.nil_append, List.append_nil, Nat.reduceAdd, Nat.reduceSub, hd_call, hd_cls, hd_exm, hd_has, runF, Q.fd_Ratio_over, Q.b_Ratio_over, c_as_rat P, prp_top P, prp_bottom P, eBin, binD, intBin, askO, m1, m3, Option.map, k]
  | int i => simp only [↓bind_ap, ↓ask_ap, ↓lift_ap, ↓sure_ap, pure_ap, stuck_ap, ↓cond_m, eX, eXs, eDs, eXo, eXt, eIt, eS, eSs, eHs, store, getV, fin, finD, asB, asI, Rv.frz, see, liftO, List.getElem?_cons_zero, List.getElem?_cons_succ, List.set_cons_zero, List.set_cons_succ, List.take_length, handed, start, List.map_cons, List.map_nil, List.length_cons, List.length_nil, List.replicate, List.cons_append, List.nil_append, List.append_nil, Nat.reduceAdd, Nat.reduceSub, hd_call, hd_cls, hd_exm, hd_has, runF, Q.fd_Ratio_over, Q.b_Ratio_over, c_as_int P, prp_top P, prp_bottom P, eBin, binD, intBin, askO, m1, m3, Option.map, k]
theorem c_neg (P : RatPg Γ) {r : Rat} (hr : Sm 4000 r) : call Γ true (n + 3) (.m "Ratio" "__neg__") [.d (ratD r)] G = some (.ok (.n (ratD (-r))), G) := by
  rw [call_m P.Ratio___neg__ rfl]
  have k := c_mk (Γ := Γ) (n := n) (G := G) P (-r.num) (r.den : Int) (q_den0 r) (szQ_of (Nat.lt_of_lt_of_le hr.2 (Nat.pow_le_pow_right (by omega) (by omega))) (q_den0 r))
  rw [q_neg] at k
  simp only [↓bind_ap, ↓ask_ap, ↓lift_ap, ↓sure_ap, pure_ap, stuck_ap, ↓cond_m, eX, eXs, eDs, eXo, eXt, eIt, eS, eSs, eHs, store, getV, fin, finD, asB, asI, Rv.frz, see, liftO, List.getElem?_cons_zero, List.getElem?_cons_succ, List.set_cons_zero, List.set_cons_succ, List.take_length, handed, start, List.map_cons, List.map_nil, List.length_cons, List.length_nil, List.replicate, List.cons_append, List.nil_append, List.append_nil, Nat.reduceAdd, Nat.reduceSub, hd_call, hd_cls, hd_exm, hd_has, runF, Q.fd_Ratio___neg__, Q.b_Ratio___neg__, prp_top P, prp_bottom P, eNeg, k]
theorem q_eqI (r : Rat) (i : Int) : (decide ((r.den : Int) = 1) && decide (r.num = i)) = decide (r = (i : Rat)) := by
  rw [← q_eq r i, Bool.and_comm]
  simp only [Rat.num_intCast, Rat.den_intCast, Int.natCast_one]
  rfl
theorem c_eqI (P : RatPg Γ) {r : Rat} {i : Int} : call Γ true (n + 2) (.m "Ratio" "__eq__") [.d (ratD r), .d (.int i)] G = some (.ok (.d (.bool (decide (r = (i : Rat))))), G) := by
  rw [call_m P.Ratio___eq__ rfl, ← q_eqI]
  cases h : decide ((r.den : Int) = 1) with
  | true => simp only [↓bind_ap, ↓ask_ap, ↓lift_ap, ↓sure_ap, pure_ap, stuck_ap, ↓cond_m, eX, eXs, eDs, eXo, eXt, eIt, eS, eSs, eHs, store, getV, fin, finD, asB, asI, Rv.frz, see, liftO, List.getElem?_cons_zero, List.getElem?_cons_succ, List.set_cons_zero, List.set_cons_succ, List.take_length, handed, start, List.map_cons, List.map_nil, List.length_cons, List.length_nil, List.replicate, List.cons_append, List.nil_append, List.append_nil, Nat.reduceAdd, Nat.reduceSub, hd_call, hd_cls, hd_exm, hd_has, runF, Q.fd_Ratio___eq__, Q.b_Ratio___eq__, c_is_integer P (.int i) rfl, isIntD, prp_top P, prp_bottom P, eCmp, cmpD, h, Bool.true_and]
  | false => simp only [↓bind_ap, ↓ask_ap, ↓lift_ap, ↓sure_ap, pure_ap, stuck_ap, ↓cond_m, eX, eXs, eDs, eXo, eXt, eIt, eS, eSs, eHs, store, getV, fin, finD, asB, asI, Rv.frz, see, liftO, List.getElem?_cons_zero, List.getElem?_cons_succ, List.set_cons_zero, List.set_cons_succ, List.take_length, handed, start, List.map_cons, List.map_nil, List.length_cons, List.length_nil, List.replicate, List.cons_append, List.nil_append, List.append_nil, Nat.reduceAdd, Nat.reduceSub, hd_call, hd_cls, hd_exm, hd_has, runF, Q.fd_Ratio___eq__, Q.b_Ratio___eq__, c_is_integer P (.int i) rfl, isIntD, prp_top P, prp_bottom P, eCmp, cmpD, h, Bool.false_and]
theorem int_rat (r : Rat) : isIntD (ratD r) = false := rfl
theorem c_eqR (P : RatPg Γ) {r s : Rat} : call Γ true (n + 2) (.m "Ratio" "__eq__") [.d (ratD r), .d (ratD s)] G = some (.ok (.d (.bool (decide (r = s)))), G) := by
  rw [call_m P.Ratio___eq__ rfl, ← q_eq]
  cases h : decide (r.num = s.num) with
  | true => simp only [↓bind_ap, ↓ask_ap, ↓lift_ap, ↓sure_ap, pure_ap, stuck_ap, ↓cond_m, eX, eXs, eDs, eXo, eXt, eIt, eS, eSs, eHs, store, getV, fin, finD, asB, asI, Rv.frz, see, liftO, List.getElem?_cons_zero, List.getElem?_cons_succ, List.set_cons_zero, List.set_cons_succ, List.take_length, handed, start, List.map_cons, List.map_nil, List.length_cons, List.length_nil, List.replicate, List.cons_append, List.nil_append, List.append_nil, Nat.reduceAdd, Nat.reduceSub, hd_call, hd_cls, hd_exm, hd_has, runF, Q.fd_Ratio___eq__, Q.b_Ratio___eq__, c_is_integer P _ (ok_rat P s), int_rat, Option.bind, isT_rat _ (ok_rat P s), is_rat, prp_top P, prp_bottom P, eCmp, cmpD, h, Bool.true_and]
  | false => simp only [↓bind_ap, ↓ask_ap, ↓lift_ap, ↓sure_ap, pure_ap, stuck_ap, ↓cond_m, eX, eXs, eDs, eXo, eXt, eIt, eS, eSs, eHs, store, getV, fin, finD, asB, asI, Rv.frz, see, liftO, List.getElem?_cons_zero, List.getElem?_cons_succ, List.set_cons_zero, List.set_cons_succ, List.take_length, handed, start, List.map_cons, List.map_nil, List.length_cons, List.length_nil, List.replicate, List.cons_append, List.nil_append, List.append_nil, Nat.reduceAdd, Nat.reduceSub, hd_call, hd_cls, hd_exm, hd_has, runF, Q.fd_Ratio___eq__, Q.b_Ratio___eq__, c_is_integer P _ (ok_rat P s), int_rat, Option.bind, isT_rat _ (ok_rat P s), is_rat, prp_top P, prp_bottom P, eCmp, cmpD, h, Bool.false_and]
theorem c_eqX (P : RatPg Γ) {r : Rat} {d : D} (ok : okD Γ d = true) (h1 : isIntD d = false) (h2 : isRatD d = false) : call Γ true (n + 2) (.m "Ratio" "__eq__") [.d (ratD r), .d d] G = some (.ok (.d (.bool false)), G) := by
  rw [call_m P.Ratio___eq__ rfl]
  simp only [↓bind_ap, ↓ask_ap, ↓lift_ap, ↓sure_ap, pure_ap, stuck_ap, ↓cond_m, eX, eXs, eDs, eXo, eXt, eIt, eS, eSs, eHs, store, getV, fin, finD, asB, asI, Rv.frz, see, liftO, List.getElem?_cons_zero, List.getElem?_cons_succ, List.set_cons_zero, List.set_cons_succ, List.take_length, handed, start, List.map_cons, List.map_nil, List.length_cons, List.length_nil, List.replicate, List.cons_append, List.nil_append, List.append_nil, Nat.reduceAdd, Nat.reduceSub, hd_call, hd_cls, hd_exm, hd_has, runF, Q.fd_Ratio___eq__, Q.b_Ratio___eq__, c_is_integer P _ ok, h1, h2, Option.bind, isT_rat _ ok]
theorem q_lt (r s : Rat) : decide (r.num * (s.den : Int) < s.num * (r.den : Int)) = decide (r < s) := decide_eq_decide.mpr (Rat.lt_iff r s).symm
theorem q_le (r s : Rat) : decide (r.num * (s.den : Int) ≤ s.num * (r.den : Int)) = decide (r ≤ s) := decide_eq_decide.mpr (Rat.le_iff r s).symm
theorem c_lt (P : RatPg Γ) {r s : Rat} {d : D} (hd : Num d s) (hr : Sm 4000 r) (hs : Sm 4000 s) : call Γ true (n + 4) (.m "Ratio" "__lt__") [.d (ratD r), .d d] G = some (.ok (.d (.bool (decide (r < s)))), G) := by
  rw [call_m P.Ratio___lt__ rfl, ← q_lt]
  have m1 := szM_of (k := 4000) (a := r.num) (b := (s.den : Int)) hr.1 hs.2 (by omega)
  have m2 := szM_of (k := 4000) (a := s.num) (b := (r.den : Int)) hs.1 hr.2 (by omega)
  cases hd with
  | rat => simp only [↓bind_ap, ↓ask_ap, ↓lift_ap, ↓sure_ap, pure_ap, stuck_ap, ↓cond_m, eX, eXs, eDs, eXo, eXt, eIt, eS, eSs, eHs, store, getV, fin, finD, asB, asI, Rv.frz, see, liftO, List.getElem?_cons_zero, List.getElem?_cons_succ, List.set_cons_zero, List.set_cons_succ, List.take_length, handed, start, List.map_cons, List.map_nil, List.length_cons, List.length_nil, List.replicate, List.cons_append, List.nil_append, List.append_nil, Nat.reduceAdd, Nat.reduceSub, hd_call, hd_cls, hd_exm, hd_has, runF, Q.fd_Ratio___lt__, Q.b_Ratio___lt__, c_as_rat P, prp_top P, prp_bottom P, eBin, binD, intBin, askO, m1, m2, Option.map, eCmp, cmpD]
  | int i => simp only [↓bind_ap, ↓ask_ap, ↓lift_ap, ↓sure_ap, pure_ap, stuck_ap, ↓cond_m, eX, eXs, eDs, eXo, eXt, eIt, eS, eSs, eHs, store, getV, fin, finD, asB, asI, Rv.frz, see, liftO, List.getElem?_cons_zero, List.getElem?_cons_succ, List.set_cons_zero, List.set_cons_succ, List.take_length, handed, start, List.map_cons, List.map_nil, List.length_cons, List.length_nil, List.replicate, List.cons_append, List.nil_append, List.append_nil, Nat.reduceAdd, Nat.reduceSub, hd_call, hd_cls, hd_exm, hd_has, runF, Q.fd_Ratio___lt__, Q.b_Ratio___lt__, c_as_int P, prp_top P, prp_bottom P, eBin, binD, intBin, askO, m1, m2, Option.map, eCmp, cmpD]
theorem c_le (P : RatPg Γ) {r s : Rat} {d : D} (hd : Num d s) (hr : Sm 4000 r) (hs : Sm 4000 s) : call Γ true (n + 4) (.m "Ratio" "__le__") [.d (ratD r), .d d] G = some (.ok (.d (.bool (decide (r ≤ s)))), G) := by
  rw [call_m P.Ratio___le__ rfl, ← q_le]
  have m1 := szM_of (k := 4000) (a := r.num) (b := (s.den : Int)) hr.1 hs.2 (by omega)
  have m2 := szM_of (k := 4000) (a := s.num) (b := (r.den : Int)) hs.1 hr.2 (by omega)
  cases hd with
  | rat => simp only [↓bind_ap, ↓ask_ap, ↓lift_ap, ↓sure_ap, pure_ap, stuck_ap, ↓cond_m, eX, eXs, eDs, eXo, eXt, eIt, eS, eSs, eHs, store, getV, fin, finD, asB, asI, Rv.frz, see, liftO, List.getElem?_cons_zero, List.getElem?_cons_succ, List.set_cons_zero, List.set_cons_succ, List.take_length, handed, start, List.map_cons, List.map_nil, List.length_cons, List.length_nil, List.replicate, List.cons_append, List.nil_append, List.append_nil, Nat.reduceAdd, Nat.reduceSub, hd_call, hd_cls, hd_exm, hd_has, runF, Q.fd_Ratio___le__, Q.b_Ratio___le__, c_as_rat P, prp_top P, prp_bottom P, eBin, binD, intBin, askO, m1, m2, Option.map, eCmp, cmpD]
  | int i => simp only [↓bind_ap, ↓ask_ap, ↓lift_ap, ↓sure_ap, pure_ap, stuck_ap, ↓cond_m, eX, eXs, eDs, eXo, eXt, eIt, eS, eSs, eHs, store, getV, fin, finD, asB, asI, Rv.frz, see, liftO, List.getElem?_cons_zero, List.getElem?_cons_succ, List.set_cons_zero, List.set_cons_succ, List.take_length, handed, start, List.map_cons, List.map_nil, List.length_cons, List.length_nil, List.replicate, List.cons_append, List.nil_append, List.append_nil, Nat.reduceAdd, Nat.reduceSub, hd_call, hd_cls, hd_exm, hd_has, runF, Q.fd_Ratio___le__, Q.b_Ratio___le__, c_as_int P, prp_top P, prp_bottom P, eBin, binD, intBin, askO, m1, m2, Option.map, eCmp, cmpD]
end
end L4

set_option Elab.async false
set_option linter.all false
set_option maxRecDepth 100000
set_option maxHeartbeats 4000000
/-! Texts of quotients. -/
namespace L4
open PySem PySem.Spec PyProof.Rows L2 NumText TL
/-! ### texts of whole numbers -/
def ofI (i : Int) : Str := Str.ofString (toString i)
def iL (i : Int) : List Nat := if i < 0 then 45 :: numL i.natAbs else numL i.natAbs
theorem tl_ofI (i : Int) : tl (ofI i) = iL i := by
  unfold ofI iL
  cases i with
  | ofNat n =>
    rw [if_neg (by simp)]
    exact tl_num n
  | negSucc n =>
    rw [if_pos (Int.negSucc_lt_zero n)]
    have e : toString (Int.negSucc n) = "-" ++ toString (((n + 1 : Nat)) : Int) := rfl
    rw [e, tl_ofString, String.toList_append, List.map_append]
    have e2 := tl_num (n + 1)
    rw [tl_ofString] at e2
    rw [e2]
    rfl
theorem numL_log {n : Nat} (h : n.log2 < 1920) : (numL n).length ≤ 578 := by
  refine numL_len (by omega) ?_
  have h1 : n < 2 ^ 1920 := by
    by_cases h0 : n = 0
    · subst h0; exact Nat.pow_pos (by omega)
    · exact (Nat.log2_lt h0).mp h
  exact Nat.lt_trans h1 (by decide +kernel)
theorem iL_len {i : Int} (h : i.natAbs.log2 < 1920) : (iL i).length ≤ 579 := by
  have := numL_log h
  unfold iL
  split
  · rw [List.length_cons]; omega
  · omega
theorem iL_val {i : Int} (h : i.natAbs.log2 < 1920) : intText? (ofI i) = some i := by
  have hl := numL_log h
  have e := tl_ofI i
  have hlen := iL_len h
  have hz : (ofI i).length ≤ 4300 := by rw [len_tl, e]; omega
  unfold iL at e
  by_cases h0 : i < 0
  · rw [if_pos h0] at e
    rw [intText_neg e (numL_digits _) (numL_ne _) hz, numL_val]
    congr 1
    omega
  · rw [if_neg h0] at e
    rw [intText_digits (by show AllDigits (tl (ofI i)); rw [e]; exact numL_digits _) (by show tl (ofI i) ≠ []; rw [e]; exact numL_ne _) hz]
    show some ((digitsVal (tl (ofI i)) : Nat) : Int) = _
    rw [e, numL_val]
    congr 1
    omega
/-! ### texts of quotients -/
def textQ (r : Rat) : Str := if r.den = 1 then ofI r.num else ofI r.num ++ ("/" ++ (ofI (r.den : Int) ++ ""))
theorem tl_slash : tl ("/" : Str) = [47] := rfl
theorem tl_text (r : Rat) : tl (textQ r) = if r.den = 1 then iL r.num else iL r.num ++ 47 :: numL r.den := by
  unfold textQ
  split
  · rw [tl_ofI]
  · rw [tl_append, tl_append, tl_append, tl_ofI, tl_ofI, tl_slash]
    have : iL (r.den : Int) = numL r.den := by
      unfold iL
      rw [if_neg (by omega)]
      rfl
    rw [this]
    show iL r.num ++ (47 :: (numL r.den ++ [])) = _
    rw [List.append_nil]
/-- a quotient that can be told -/
structure Tq (r : Rat) : Prop where
  n : r.num.natAbs.log2 < 1920
  d : r.den.log2 < 1920
theorem text_len {r : Rat} (h : Tq r) : (textQ r).length ≤ 1158 := by
  rw [len_tl, tl_text]
  have h1 := iL_len h.n
  have h2 := numL_log h.d
  split
  · omega
  · rw [List.length_append, List.length_cons]; omega
theorem fstr_text {r : Rat} (h : Tq r) (hd : r.den ≠ 1) : fstrL [.int r.num, .str "/", .int (r.den : Int)] = some (.d (.str (textQ r))) := by
  have h1 := text_len h
  have e : textQ r = ofI r.num ++ ("/" ++ (ofI (r.den : Int) ++ "")) := by unfold textQ; rw [if_neg hd]
  rw [e] at h1
  unfold fstrL
  have e2 : fstr [.int r.num, .str "/", .int (r.den : Int)] = some (ofI r.num ++ ("/" ++ (ofI (r.den : Int) ++ ""))) := by
    simp only [fstr, decide_eq_true h.n, decide_eq_true (show ((r.den : Int).natAbs).log2 < 1920 from h.d), askO, cond_t, Option.map_some]
    rfl
  rw [e2, e]
  show askO (decide (_ ≤ line)) _ = _
  rw [decide_eq_true (Nat.le_trans h1 (by decide))]
  rfl
section
variable {Γ : Pg} {n : Nat} {G : Cs}
theorem c_text (P : RatPg Γ) {r : Rat} (h : Tq r) : call Γ true (n + 2) (.m "Ratio" "text") [.d (ratD r)] G = some (.ok (.d (.str (textQ r))), G) := by
  rw [call_m P.Ratio_text rfl]
  by_cases hd : r.den = 1
  · have e : textQ r = Str.ofString (toString r.num) := by unfold textQ; rw [if_pos hd]; rfl
    have d1 : decide ((r.den : Int) = 1) = true := decide_eq_true (by omega)
    simp only [↓bind_ap, ↓ask_ap, ↓lift_ap, ↓sure_ap, pure_ap, stuck_ap, ↓cond_m, eX, eXs, eDs, eXo, eXt, eIt, eS, eSs, eHs, store, getV, fin, finD, asB, asI, Rv.frz, see, liftO, List.getElem?_cons_zero, List.getElem?_cons_succ, List.set_cons_zero, List.set_cons_succ, List.take_length, handed, start, List.map_cons, List.map_nil, List.length_cons, List.length_nil, List.replicate, List.cons_append, List.nil_append, List.append_nil, Nat.reduceAdd, Nat.reduceSub, hd_call, hd_cls, hd_exm, hd_has, runF, Q.fd_Ratio_text, Q.b_Ratio_text, prp_top P, prp_bottom P, eCmp, cmpD, d1, eBlt, List.mapM_cons, List.mapM_nil, Option.pure_def, Option.bind_eq_bind, Option.bind_some, bltD, bltS, askO, decide_eq_true h.n, e]
  · have d1 : decide ((r.den : Int) = 1) = false := decide_eq_false (by omega)
    simp only [↓bind_ap, ↓ask_ap, ↓lift_ap, ↓sure_ap, pure_ap, stuck_ap, ↓cond_m, eX, eXs, eDs, eXo, eXt, eIt, eS, eSs, eHs, store, getV, fin, finD, asB, asI, Rv.frz, see, liftO, List.getElem?_cons_zero, List.getElem?_cons_succ, List.set_cons_zero, List.set_cons_succ, List.take_length, handed, start, List.map_cons, List.map_nil, List.length_cons, List.length_nil, List.replicate, List.cons_append, List.nil_append, List.append_nil, Nat.reduceAdd, Nat.reduceSub, hd_call, hd_cls, hd_exm, hd_has, runF, Q.fd_Ratio_text, Q.b_Ratio_text, prp_top P, prp_bottom P, eCmp, cmpD, d1, fstr_text h hd]
end
end L4

set_option Elab.async false
set_option linter.all false
set_option maxRecDepth 100000
set_option maxHeartbeats 4000000
/-! Texts read. -/
namespace L4
open PySem PySem.Spec PyProof.Rows L2 NumText TL
/-! ### words of digits -/
def isDig (c : Nat) : Bool := decide (48 ≤ c) && decide (c ≤ 57)
def wholeB (l : List Nat) : Bool := !l.isEmpty && l.all isDig
def unsign : List Nat → List Nat
  | 45 :: r => r
  | l => l
def iv : List Nat → Int
  | 45 :: r => -((digitsVal r : Nat) : Int)
  | l => ((digitsVal l : Nat) : Int)
theorem isDig_iff {c : Nat} : isDig c = true ↔ 48 ≤ c ∧ c ≤ 57 := by simp [isDig]
theorem whole_iff {l : List Nat} : wholeB l = true ↔ l ≠ [] ∧ AllDigits l := by
  unfold wholeB AllDigits
  simp [isDig_iff]
theorem digits_tl : tl ("0123456789" : Str) = [48, 49, 50, 51, 52, 53, 54, 55, 56, 57] := by decide +kernel
theorem in_digits (c : Nat) : decide (c ∈ ("0123456789" : Str).cps.toList) = isDig c := by
  rw [show ("0123456789" : Str).cps.toList = [48, 49, 50, 51, 52, 53, 54, 55, 56, 57] from digits_tl, Bool.eq_iff_iff, isDig_iff]
  simp only [List.mem_cons, List.not_mem_nil, or_false, decide_eq_true_eq]
  omega
theorem rp_dash (x : Str) : tl (Txt.removeprefix x "-") = unsign (tl x) := by
  rw [PySem.StrLaws.removeprefix_eq]
  have e1 : ("-" : Str) = ⟨#[45]⟩ := by decide +kernel
  have key := PySem.StrLaws.subAt_one x 45 0
  rw [e1]
  have l1 : (⟨#[45]⟩ : Str).length = 1 := rfl
  have lx := len_tl x
  cases hx : tl x with
  | nil =>
    have hx' : x.cps.toList = [] := hx
    rw [if_neg]
    · exact hx
    · intro z
      obtain ⟨z1, z2⟩ := Bool.and_eq_true_iff.mp z
      have := key.mp ⟨of_decide_eq_true z1, z2⟩
      rw [hx'] at this
      cases this
  | cons c r =>
    have hx' : x.cps.toList = c :: r := hx
    by_cases hc : c = 45
    · subst hc
      obtain ⟨z1, z2⟩ := key.mpr (by rw [hx']; rfl)
      rw [decide_eq_true z1, z2, Bool.and_self, if_pos rfl]
      show ((x.cps.toList.drop (⟨#[45]⟩ : Str).length).take (x.length - (⟨#[45]⟩ : Str).length)) = r
      rw [hx', l1, lx, hx]
      simp
    · rw [if_neg]
      · show tl x = _
        rw [hx]
        unfold unsign
        split
        · rename_i h; cases h; exact absurd rfl hc
        · rfl
      · intro z
        obtain ⟨z1, z2⟩ := Bool.and_eq_true_iff.mp z
        have := key.mp ⟨of_decide_eq_true z1, z2⟩
        rw [hx'] at this
        cases this
        exact hc rfl
theorem digits_lt : ∀ (l : List Nat) (a : Nat), AllDigits l → l.foldl (fun acc c => acc * 10 + (c - 48)) a < (a + 1) * 10 ^ l.length
  | [], a, _ => by simp
  | c :: l, a, h => by
    have hc := h.head
    have ih := digits_lt l (a * 10 + (c - 48)) h.tail
    rw [List.foldl_cons, List.length_cons, Nat.pow_succ]
    refine Nat.lt_of_lt_of_le ih ?_
    have : (a * 10 + (c - 48) + 1) ≤ (a + 1) * 10 := by omega
    calc (a * 10 + (c - 48) + 1) * 10 ^ l.length ≤ ((a + 1) * 10) * 10 ^ l.length := Nat.mul_le_mul_right _ this
      _ = (a + 1) * (10 ^ l.length * 10) := by rw [Nat.mul_assoc, Nat.mul_comm 10]
theorem val_lt {l : List Nat} {k : Nat} (h : AllDigits l) (hl : l.length ≤ k) : digitsVal l < 10 ^ k := by
  have := digits_lt l 0 h
  rw [Nat.zero_add, Nat.one_mul] at this
  exact Nat.lt_of_lt_of_le this (Nat.pow_le_pow_right (by omega) hl)
theorem ten_570 : 10 ^ 570 < 2 ^ 1900 := by decide +kernel
theorem unsign_cases (l : List Nat) : (∃ r, l = 45 :: r ∧ unsign l = r ∧ iv l = -((digitsVal r : Nat) : Int)) ∨ (unsign l = l ∧ iv l = ((digitsVal l : Nat) : Int)) := by
  cases l with
  | nil => exact .inr ⟨rfl, rfl⟩
  | cons c r =>
    by_cases hc : c = 45
    · subst hc
      exact .inl ⟨r, rfl, rfl, rfl⟩
    · refine .inr ⟨?_, ?_⟩
      · unfold unsign
        split
        · rename_i h; cases h; exact absurd rfl hc
        · rfl
      · unfold iv
        split
        · rename_i h; cases h; exact absurd rfl hc
        · rfl
theorem int_val {x : Str} (h : wholeB (unsign (tl x)) = true) (hl : x.length ≤ 4300) : intText? x = some (iv (tl x)) := by
  obtain ⟨h1, h2⟩ := whole_iff.mp h
  rcases unsign_cases (tl x) with ⟨r, e, e1, e2⟩ | ⟨e1, e2⟩
  · rw [e1] at h1 h2
    rw [e2, intText_neg e h2 h1 hl]
  · rw [e1] at h1 h2
    rw [e2, intText_digits h2 h1 hl]
theorem iv_lt {l : List Nat} (h : wholeB (unsign l) = true) (hl : l.length ≤ 570) : (iv l).natAbs < 2 ^ 1900 := by
  obtain ⟨h1, h2⟩ := whole_iff.mp h
  refine Nat.lt_trans ?_ ten_570
  rcases unsign_cases l with ⟨r, e, e1, e2⟩ | ⟨e1, e2⟩
  · rw [e1] at h1 h2
    rw [e2, Int.natAbs_neg, Int.natAbs_natCast]
    exact val_lt h2 (by rw [e] at hl; simp at hl; omega)
  · rw [e1] at h1 h2
    rw [e2, Int.natAbs_natCast]
    exact val_lt h2 hl
/-- bounds of a quotient's parts -/
theorem num_le {t b : Int} (h : b ≠ 0) : (Rat.divInt t b).num.natAbs ≤ t.natAbs := by
  rw [← rdiv_num h]
  have hr := rdiv_ne (t := t) h
  have : (t.fdiv (rdiv t b)) * rdiv t b = t := by
    refine Int.fdiv_mul_cancel ?_
    have h1 : ((Int.gcd t b : Nat) : Int) ∣ t := Int.gcd_dvd_left t b
    unfold rdiv
    split
    · exact Int.neg_dvd.mpr h1
    · exact h1
  have h2 : (t.fdiv (rdiv t b)).natAbs * (rdiv t b).natAbs = t.natAbs := by rw [← Int.natAbs_mul, this]
  rw [← h2]
  exact Nat.le_mul_of_pos_right _ (by omega)
theorem den_le {t b : Int} (h : b ≠ 0) : (Rat.divInt t b).den ≤ b.natAbs := by
  have e := rdiv_den (t := t) h
  have hr := rdiv_ne (t := t) h
  have : (b.fdiv (rdiv t b)) * rdiv t b = b := by
    refine Int.fdiv_mul_cancel ?_
    have h1 : ((Int.gcd t b : Nat) : Int) ∣ b := Int.gcd_dvd_right t b
    unfold rdiv
    split
    · exact Int.neg_dvd.mpr h1
    · exact h1
  have h2 : (b.fdiv (rdiv t b)).natAbs * (rdiv t b).natAbs = b.natAbs := by rw [← Int.natAbs_mul, this]
  have h3 : (b.fdiv (rdiv t b)).natAbs = (Rat.divInt t b).den := by rw [e]; rfl
  rw [← h2, h3]
  exact Nat.le_mul_of_pos_right _ (by omega)
theorem tq_of {t b : Int} (h0 : b ≠ 0) (ht : t.natAbs < 2 ^ 1900) (hb : b.natAbs < 2 ^ 1900) : Tq (Rat.divInt t b) := by
  refine ⟨?_, ?_⟩
  · have := log_lt (Nat.lt_of_le_of_lt (num_le (t := t) h0) ht) (by omega)
    omega
  · have := log_lt (Nat.lt_of_le_of_lt (den_le (t := t) h0) hb) (by omega)
    omega
/-! ### methods of texts -/
section
variable {h : Hd} {G : Cs} {s t : Str} {m : Str}
theorem kind_str {ne : Bool} (hm : (bid m "str").isSome = true) : kindT h m ne (.d (.str s)) G = some (.ok (.t "str"), G) := by
  show cond (bid m "str").isSome (some (Except.ok (kd (.str s)), G)) none = _
  rw [hm]
  rfl
theorem met_str {d : D} (hm : m ∉ muts) (hg : m ≠ "get") : eMet h (.d (.str s)) m (.t "str") [.d d] G = (match metD m (.str s) [d] with
    | some r => some (.ok r, G)
    | none => none) := by
  show cond (decide (kd (.str s) = .t "str")) (eM3 (.d (.str s)) m [.d d] (.str s) G) none = _
  rw [show decide (kd (.str s) = .t "str") = true from rfl, cond_t]
  unfold eM3
  rw [if_neg hm, if_neg hg]
  rfl
theorem bid_partition : (bid "partition" "str").isSome = true := by decide +kernel
theorem bid_split : (bid "split" "str").isSome = true := by decide +kernel
theorem bid_removeprefix : (bid "removeprefix" "str").isSome = true := by decide +kernel
theorem bid_join : (bid "join" "str").isSome = true := by decide +kernel
theorem met_partition (h1 : s.length ≤ line) (h2 : t.length ≠ 0) : eMet h (.d (.str s)) "partition" (.t "str") [.d (.str t)] G = some (.ok (.d (.tup [.str (Txt.partition s t).1, .str (Txt.partition s t).2.1, .str (Txt.partition s t).2.2])), G) := by
  rw [met_str (by decide +kernel) (by decide +kernel)]
  unfold metD
  dsimp only
  rw [if_neg (by decide +kernel), if_pos (by decide +kernel), decide_eq_true h1, show (t.length == 0) = false from beq_eq_false_iff_ne.mpr h2]
  rfl
theorem met_split (h1 : s.length ≤ line) (h2 : t.length ≠ 0) : eMet h (.d (.str s)) "split" (.t "str") [.d (.str t)] G = some (.ok (.n (.lst ((Txt.split s t).map D.str))), G) := by
  rw [met_str (by decide +kernel) (by decide +kernel)]
  unfold metD
  dsimp only
  rw [if_pos (by decide +kernel), decide_eq_true h1, show (t.length == 0) = false from beq_eq_false_iff_ne.mpr h2]
  rfl
theorem met_removeprefix (h1 : s.length ≤ line) : eMet h (.d (.str s)) "removeprefix" (.t "str") [.d (.str t)] G = some (.ok (.d (.str (Txt.removeprefix s t))), G) := by
  rw [met_str (by decide +kernel) (by decide +kernel)]
  unfold metD
  dsimp only
  rw [if_neg (by decide +kernel), if_neg (by decide +kernel), if_pos (by decide +kernel), decide_eq_true h1]
  rfl
theorem mu_text : decide (("text" : Str) ∈ muts) = false := by decide +kernel
theorem mu_over : decide (("over" : Str) ∈ muts) = false := by decide +kernel
theorem mu_read : decide (("read" : Str) ∈ muts) = false := by decide +kernel
end
section
variable {Γ : Pg} {n : Nat} {G : Cs}
theorem kind_rat (P : RatPg Γ) {r : Rat} {m : Str} {ne : Bool} {fd : Fd} (hf : Γ.fn (.m "Ratio" m) = some fd) (h1 : "own_top" ≠ m) (h2 : "own_bottom" ≠ m) : kindT (hd Γ true n) m ne (.d (ratD r)) G = some (.ok (.i "Ratio"), G) := by
  show cond (Γ.cls "Ratio" && ((Γ.fn (.m "Ratio" m)).isSome && (fldL m ratN [.int r.num, .int (r.den : Int)]).isNone)) (some (Except.ok (Kd.i "Ratio"), G)) none = _
  rw [P.cls, hf]
  unfold fldL
  rw [if_neg h1]
  unfold fldL
  rw [if_neg h2]
  rfl
theorem met_rat {r : Rat} {m : Str} {as : List Rv} : eMet (hd Γ true n) (.d (ratD r)) m (.i "Ratio") as G = call Γ true n (.m "Ratio" m) (.d (ratD r) :: as) G := by
  show cond (decide (Kd.i "Ratio" = Kd.i "Ratio")) (call Γ true n (.m "Ratio" m) (.d (ratD r) :: as) G) none = _
  rw [decide_eq_true rfl]
  rfl
theorem kind_text (P : RatPg Γ) {r : Rat} {ne : Bool} : kindT (hd Γ true n) "text" ne (.d (ratD r)) G = some (.ok (.i "Ratio"), G) := kind_rat P P.Ratio_text (by decide +kernel) (by decide +kernel)
theorem kind_over (P : RatPg Γ) {r : Rat} {ne : Bool} : kindT (hd Γ true n) "over" ne (.d (ratD r)) G = some (.ok (.i "Ratio"), G) := kind_rat P P.Ratio_over (by decide +kernel) (by decide +kernel)
theorem bools_map (l : List D) (f : D → Bool) : boolsL (l.map fun d => D.bool (f d)) = some (l.map f) := by
  induction l with
  | nil => rfl
  | cons a l ih => rw [List.map_cons, boolsL, ih]; rfl
def digD : D → Bool
  | .str s => match tl s with
    | [c] => isDig c
    | _ => false
  | _ => false
theorem c_is_whole (P : RatPg Γ) (s : Str) (hl : s.length ≤ line) : call Γ true (n + 1) (.g "is_whole") [.d (.str s)] G = some (.ok (.d (.bool (wholeB (tl s)))), G) := by
  rw [call_g P.is_whole rfl]
  by_cases h0 : s = ""
  · subst h0
    simp only [↓bind_ap, ↓ask_ap, ↓lift_ap, ↓sure_ap, pure_ap, stuck_ap, ↓cond_m, eX, eXs, eDs, eXo, eXt, eIt, eS, eSs, eHs, store, getV, fin, finD, asB, asI, Rv.frz, see, liftO, List.getElem?_cons_zero, List.getElem?_cons_succ, List.set_cons_zero, List.set_cons_succ, List.take_length, handed, start, List.map_cons, List.map_nil, List.length_cons, List.length_nil, List.replicate, List.cons_append, List.nil_append, List.append_nil, Nat.reduceAdd, Nat.reduceSub, hd_call, hd_cls, hd_exm, hd_has, runF, Q.fd_is_whole, Q.b_is_whole, eCmp, cmpD, decide_true, Bool.not_true]
    rfl
  · have h1 : tl s ≠ [] := fun e => h0 (ext_tl e)
    have lc := lc_run (q := true) (h := hd Γ true n) (ρ := [some (.d (.str s)), none]) (G := G) (e := Q.x0_is_whole) (vs := [1]) (tg := .name 1) (it := .val (.var 0)) (co := .no) (xs := (tl s).map fun c => D.str ⟨#[c]⟩) (fun d => .bool (digD d)) (fun _ => true)
      (by simp only [↓bind_ap, ↓ask_ap, ↓lift_ap, ↓sure_ap, pure_ap, stuck_ap, ↓cond_m, eX, eXs, eDs, eXo, eXt, eIt, eS, eSs, eHs, store, getV, fin, finD, asB, asI, Rv.frz, see, liftO, List.getElem?_cons_zero, List.getElem?_cons_succ, List.set_cons_zero, List.set_cons_succ, List.take_length, handed, start, List.map_cons, List.map_nil, List.length_cons, List.length_nil, List.replicate, List.cons_append, List.nil_append, List.append_nil, Nat.reduceAdd, Nat.reduceSub, hd_call, hd_cls, hd_exm, hd_has, walkL, items]) (by rw [List.length_map, ← len_tl]; exact hl) (fun x hx => by
        obtain ⟨c, hc, rfl⟩ := List.mem_map.mp hx
        refine ⟨[some (.d (.str s)), some (.d (.str ⟨#[c]⟩))], rfl, fun G' => ⟨rfl, fun _ => ?_⟩⟩
        simp only [↓bind_ap, ↓ask_ap, ↓lift_ap, ↓sure_ap, pure_ap, stuck_ap, ↓cond_m, eX, eXs, eDs, eXo, eXt, eIt, eS, eSs, eHs, store, getV, fin, finD, asB, asI, Rv.frz, see, liftO, List.getElem?_cons_zero, List.getElem?_cons_succ, List.set_cons_zero, List.set_cons_succ, List.take_length, handed, start, List.map_cons, List.map_nil, List.length_cons, List.length_nil, List.replicate, List.cons_append, List.nil_append, List.append_nil, Nat.reduceAdd, Nat.reduceSub, hd_call, hd_cls, hd_exm, hd_has, Q.x0_is_whole, eCmp, cmpD, PySem.StrLaws.found_one, in_digits, digD])
    have ft : ∀ l : List D, l.filter (fun _ => true) = l := fun l => by simp
    rw [ft] at lc
    have d0 : decide (s = "") = false := decide_eq_false h0
    have e3 : ((tl s).map fun c => D.str ⟨#[c]⟩).map (fun d => D.bool (digD d)) = ((tl s).map isDig).map D.bool := by
      rw [List.map_map, List.map_map]
      rfl
    have e4 : ∀ l : List Bool, boolsL (l.map D.bool) = some l := fun l => by
      induction l with
      | nil => rfl
      | cons a l ih => rw [List.map_cons, boolsL, ih]; rfl
    rw [e3] at lc
    have e5 : (((tl s).map isDig).all id) = wholeB (tl s) := by
      unfold wholeB
      rw [show (tl s).isEmpty = false from by simpa using h1, List.all_map]
      rfl
    simp only [↓bind_ap, ↓ask_ap, ↓lift_ap, ↓sure_ap, pure_ap, stuck_ap, ↓cond_m, eX, eXs, eDs, eXo, eXt, eIt, eS, eSs, eHs, store, getV, fin, finD, asB, asI, Rv.frz, see, liftO, List.getElem?_cons_zero, List.getElem?_cons_succ, List.set_cons_zero, List.set_cons_succ, List.take_length, handed, start, List.map_cons, List.map_nil, List.length_cons, List.length_nil, List.replicate, List.cons_append, List.nil_append, List.append_nil, Nat.reduceAdd, Nat.reduceSub, hd_call, hd_cls, hd_exm, hd_has, runF, Q.fd_is_whole, Q.b_is_whole, eCmp, cmpD, d0, Bool.not_false, ↓lc, eBlt, List.mapM_cons, List.mapM_nil, Option.pure_def, Option.bind_eq_bind, Option.bind_some, bltD, e4, Option.map_some, e5]
end
end L4

set_option Elab.async false
set_option linter.all false
set_option maxRecDepth 100000
set_option maxHeartbeats 4000000
/-! Ratio.read. -/
namespace L4
open PySem PySem.Spec PyProof.Rows L2 NumText TL
theorem slash_len : ("/" : Str).length ≠ 0 := by decide +kernel
section
variable {Γ : Pg} {n : Nat} {G : Cs} {s a sl b : Str}
abbrev badText : Err := ⟨"BadText", [], []⟩
theorem read_1 (P : RatPg Γ) (hl : s.length ≤ line) (ha : a.length ≤ 570) (hp : Txt.partition s "/" = (a, sl, b)) (h1 : wholeB (unsign (tl a)) = false) : call Γ true (n + 5) (.c "Ratio" "read") [.d (.str s)] G = some (.error badText, G) := by
  rw [call_c P.Ratio_read rfl]
  have l1 := hl
  have l2 : a.length ≤ line := Nat.le_trans ha (by decide)
  have l3 : (Txt.removeprefix a "-").length ≤ line := by
    rw [len_tl, rp_dash]
    rcases unsign_cases (tl a) with ⟨r, e, e1, _⟩ | ⟨e1, _⟩
    · rw [len_tl, e] at l2; rw [e1]; simp at l2; omega
    · rw [e1, ← len_tl]; exact l2
  simp only [↓bind_ap, ↓ask_ap, ↓lift_ap, ↓sure_ap, pure_ap, stuck_ap, ↓cond_m, eX, eXs, eDs, eXo, eXt, eIt, eS, eSs, eHs, store, getV, fin, finD, asB, asI, Rv.frz, see, liftO, List.getElem?_cons_zero, List.getElem?_cons_succ, List.set_cons_zero, List.set_cons_succ, List.take_length, handed, start, List.map_cons, List.map_nil, List.length_cons, List.length_nil, List.replicate, List.cons_append, List.nil_append, List.append_nil, Nat.reduceAdd, Nat.reduceSub, hd_call, hd_cls, hd_exm, hd_has, runF, Q.fd_Ratio_read, Q.b_Ratio_read, newOf, kind_str bid_partition, kind_str bid_removeprefix, met_partition l1 slash_len, met_removeprefix l2, hp, walkD, Option.bind_some, tupD, putAll, putS, c_is_whole P _ l3, rp_dash, h1, Bool.not_false, decide_true, List.reverse_nil]
theorem read_2 (P : RatPg Γ) (hl : s.length ≤ line) (ha : a.length ≤ 570) (hb : b.length ≤ 570) (hp : Txt.partition s "/" = (a, sl, b)) (h1 : wholeB (unsign (tl a)) = true) (h2 : sl ≠ "") (h3 : wholeB (tl b) = false) : call Γ true (n + 5) (.c "Ratio" "read") [.d (.str s)] G = some (.error badText, G) := by
  rw [call_c P.Ratio_read rfl]
  have l1 := hl
  have l2 : a.length ≤ line := Nat.le_trans ha (by decide)
  have l4 : b.length ≤ line := Nat.le_trans hb (by decide)
  have l3 : (Txt.removeprefix a "-").length ≤ line := by
    rw [len_tl, rp_dash]
    rcases unsign_cases (tl a) with ⟨r, e, e1, _⟩ | ⟨e1, _⟩
    · rw [len_tl, e] at l2; rw [e1]; simp at l2; omega
    · rw [e1, ← len_tl]; exact l2
  simp only [↓bind_ap, ↓ask_ap, ↓lift_ap, ↓sure_ap, pure_ap, stuck_ap, ↓cond_m, eX, eXs, eDs, eXo, eXt, eIt, eS, eSs, eHs, store, getV, fin, finD, asB, asI, Rv.frz, see, liftO, List.getElem?_cons_zero, List.getElem?_cons_succ, List.set_cons_zero, List.set_cons_succ, List.take_length, handed, start, List.map_cons, List.map_nil, List.length_cons, List.length_nil, List.replicate, List.cons_append, List.nil_append, List.append_nil, Nat.reduceAdd, Nat.reduceSub, hd_call, hd_cls, hd_exm, hd_has, runF, Q.fd_Ratio_read, Q.b_Ratio_read, newOf, kind_str bid_partition, kind_str bid_removeprefix, met_partition l1 slash_len, met_removeprefix l2, hp, walkD, Option.bind_some, tupD, putAll, putS, c_is_whole P _ l3, c_is_whole P _ l4, rp_dash, h1, h3, Bool.not_false, Bool.not_true, eCmp, cmpD, decide_eq_false h2, decide_true, List.reverse_nil]
/-- past the words -/
theorem read_3 (P : RatPg Γ) {u : Int} {r : Rat} (hl : s.length ≤ line) (ha : a.length ≤ 570) (hb : b.length ≤ 570) (hp : Txt.partition s "/" = (a, sl, b)) (h1 : wholeB (unsign (tl a)) = true) (h2 : sl = "" ∧ u = 1 ∨ sl ≠ "" ∧ wholeB (tl b) = true ∧ u = ((digitsVal (tl b) : Nat) : Int)) :
    call Γ true (n + 5) (.c "Ratio" "read") [.d (.str s)] G = if u = 0 ∨ textQ (Rat.divInt (iv (tl a)) u) ≠ s then some (.error badText, G) else some (.ok (.n (ratD (Rat.divInt (iv (tl a)) u))), G) := by
  rw [call_c P.Ratio_read rfl]
  have l1 := hl
  have l2 : a.length ≤ line := Nat.le_trans ha (by decide)
  have l4 : b.length ≤ line := Nat.le_trans hb (by decide)
  have l3 : (Txt.removeprefix a "-").length ≤ line := by
    rw [len_tl, rp_dash]
    rcases unsign_cases (tl a) with ⟨r, e, e1, _⟩ | ⟨e1, _⟩
    · rw [len_tl, e] at l2; rw [e1]; simp at l2; omega
    · rw [e1, ← len_tl]; exact l2
  have l5 : decide (a.length ≤ 640) = true := decide_eq_true (by omega)
  have l6 : decide (b.length ≤ 640) = true := decide_eq_true (by omega)
  have i1 := int_val h1 (by omega)
  have b1 := iv_lt h1 (by rw [← len_tl]; exact ha)
  have hu : u.natAbs < 2 ^ 1900 := by
    rcases h2 with ⟨_, rfl⟩ | ⟨_, h3, rfl⟩
    · decide +kernel
    · exact Nat.lt_trans (val_lt (whole_iff.mp h3).2 (by rw [← len_tl]; exact hb)) ten_570
  have i2 : sl ≠ "" → intText? b = some u := fun hs => by
    rcases h2 with ⟨h, _⟩ | ⟨_, h3, rfl⟩
    · exact absurd h hs
    · exact intText_digits (whole_iff.mp h3).2 (whole_iff.mp h3).1 (by omega)
  by_cases hu0 : u = 0
  · subst hu0
    rw [if_pos (.inl rfl)]
    rcases h2 with ⟨_, h⟩ | ⟨hs, h3, _⟩
    · cases h
    · simp only [↓bind_ap, ↓ask_ap, ↓lift_ap, ↓sure_ap, pure_ap, stuck_ap, ↓cond_m, eX, eXs, eDs, eXo, eXt, eIt, eS, eSs, eHs, store, getV, fin, finD, asB, asI, Rv.frz, see, liftO, List.getElem?_cons_zero, List.getElem?_cons_succ, List.set_cons_zero, List.set_cons_succ, List.take_length, handed, start, List.map_cons, List.map_nil, List.length_cons, List.length_nil, List.replicate, List.cons_append, List.nil_append, List.append_nil, Nat.reduceAdd, Nat.reduceSub, hd_call, hd_cls, hd_exm, hd_has, runF, Q.fd_Ratio_read, Q.b_Ratio_read, newOf, kind_str bid_partition, kind_str bid_removeprefix, met_partition l1 slash_len, met_removeprefix l2, hp, walkD, Option.bind_some, tupD, putAll, putS, c_is_whole P _ l3, c_is_whole P _ l4, rp_dash, h1, h3, Bool.not_false, Bool.not_true, eCmp, cmpD, decide_eq_false hs, decide_true, List.reverse_nil, eBlt, List.mapM_cons, List.mapM_nil, Option.pure_def, Option.bind_eq_bind, bltD, bltI, askO, l6, i2 hs, Option.map_some]
  · have sq : SzQ (iv (tl a)) u := szQ_of (Nat.lt_trans hu (Nat.pow_lt_pow_right (by omega) (by omega))) hu0
    have tq := tq_of (t := iv (tl a)) hu0 b1 hu
    have hi : (Γ.fn (.k "Ratio")).isSome = true := by rw [P.Ratio___init__]; rfl
    by_cases ht : textQ (Rat.divInt (iv (tl a)) u) = s
    · rw [if_neg (by simp [hu0, ht])]
      rcases h2 with ⟨hs, hu1⟩ | ⟨hs, h3, _⟩
      · simp only [↓bind_ap, ↓ask_ap, ↓lift_ap, ↓sure_ap, pure_ap, stuck_ap, ↓cond_m, eX, eXs, eDs, eXo, eXt, eIt, eS, eSs, eHs, store, getV, fin, finD, asB, asI, Rv.frz, see, liftO, List.getElem?_cons_zero, List.getElem?_cons_succ, List.set_cons_zero, List.set_cons_succ, List.take_length, handed, start, List.map_cons, List.map_nil, List.length_cons, List.length_nil, List.replicate, List.cons_append, List.nil_append, List.append_nil, Nat.reduceAdd, Nat.reduceSub, hd_call, hd_cls, hd_exm, hd_has, runF, Q.fd_Ratio_read, Q.b_Ratio_read, newOf, kind_str bid_partition, kind_str bid_removeprefix, met_partition l1 slash_len, met_removeprefix l2, hp, walkD, Option.bind_some, tupD, putAll, putS, c_is_whole P _ l3, c_is_whole P _ l4, rp_dash, h1, Bool.not_false, Bool.not_true, eCmp, cmpD, decide_eq_true hs, decide_true, List.reverse_nil, eBlt, List.mapM_cons, List.mapM_nil, Option.pure_def, Option.bind_eq_bind, bltD, bltI, askO, l5, i1, Option.map_some, ← hu1, decide_eq_false hu0, clsOf, hi, c_mk P _ _ hu0 sq, mu_text, kind_text P, met_rat, c_text P tq, ht]
      · simp only [↓bind_ap, ↓ask_ap, ↓lift_ap, ↓sure_ap, pure_ap, stuck_ap, ↓cond_m, eX, eXs, eDs, eXo, eXt, eIt, eS, eSs, eHs, store, getV, fin, finD, asB, asI, Rv.frz, see, liftO, List.getElem?_cons_zero, List.getElem?_cons_succ, List.set_cons_zero, List.set_cons_succ, List.take_length, handed, start, List.map_cons, List.map_nil, List.length_cons, List.length_nil, List.replicate, List.cons_append, List.nil_append, List.append_nil, Nat.reduceAdd, Nat.reduceSub, hd_call, hd_cls, hd_exm, hd_has, runF, Q.fd_Ratio_read, Q.b_Ratio_read, newOf, kind_str bid_partition, kind_str bid_removeprefix, met_partition l1 slash_len, met_removeprefix l2, hp, walkD, Option.bind_some, tupD, putAll, putS, c_is_whole P _ l3, c_is_whole P _ l4, rp_dash, h1, h3, Bool.not_false, Bool.not_true, eCmp, cmpD, decide_eq_false hs, decide_true, List.reverse_nil, eBlt, List.mapM_cons, List.mapM_nil, Option.pure_def, Option.bind_eq_bind, bltD, bltI, askO, l5, l6, i1, i2 hs, Option.map_some, decide_eq_false hu0, clsOf, hi, c_mk P _ _ hu0 sq, mu_text, kind_text P, met_rat, c_text P tq, ht]
    · rw [if_pos (.inr ht)]
      have ht' := decide_eq_false ht
      rcases h2 with ⟨hs, hu1⟩ | ⟨hs, h3, _⟩
      · simp only [↓bind_ap, ↓ask_ap, ↓lift_ap, ↓sure_ap, pure_ap, stuck_ap, ↓cond_m, eX, eXs, eDs, eXo, eXt, eIt, eS, eSs, eHs, store, getV, fin, finD, asB, asI, Rv.frz, see, liftO, List.getElem?_cons_zero, List.getElem?_cons_succ, List.set_cons_zero, List.set_cons_succ, List.take_length, handed, start, List.map_cons, List.map_nil, List.length_cons, List.length_nil, List.replicate, List.cons_append, List.nil_append, List.append_nil, Nat.reduceAdd, Nat.reduceSub, hd_call, hd_cls, hd_exm, hd_has, runF, Q.fd_Ratio_read, Q.b_Ratio_read, newOf, kind_str bid_partition, kind_str bid_removeprefix, met_partition l1 slash_len, met_removeprefix l2, hp, walkD, Option.bind_some, tupD, putAll, putS, c_is_whole P _ l3, c_is_whole P _ l4, rp_dash, h1, Bool.not_false, Bool.not_true, eCmp, cmpD, decide_eq_true hs, decide_true, List.reverse_nil, eBlt, List.mapM_cons, List.mapM_nil, Option.pure_def, Option.bind_eq_bind, bltD, bltI, askO, l5, i1, Option.map_some, ← hu1, decide_eq_false hu0, clsOf, hi, c_mk P _ _ hu0 sq, mu_text, kind_text P, met_rat, c_text P tq, ht']
      · simp only [↓bind_ap, ↓ask_ap, ↓lift_ap, ↓sure_ap, pure_ap, stuck_ap, ↓cond_m, eX, eXs, eDs, eXo, eXt, eIt, eS, eSs, eHs, store, getV, fin, finD, asB, asI, Rv.frz, see, liftO, List.getElem?_cons_zero, List.getElem?_cons_succ, List.set_cons_zero, List.set_cons_succ, List.take_length, handed, start, List.map_cons, List.map_nil, List.length_cons, List.length_nil, List.replicate, List.cons_append, List.nil_append, List.append_nil, Nat.reduceAdd, Nat.reduceSub, hd_call, hd_cls, hd_exm, hd_has, runF, Q.fd_Ratio_read, Q.b_Ratio_read, newOf, kind_str bid_partition, kind_str bid_removeprefix, met_partition l1 slash_len, met_removeprefix l2, hp, walkD, Option.bind_some, tupD, putAll, putS, c_is_whole P _ l3, c_is_whole P _ l4, rp_dash, h1, h3, Bool.not_false, Bool.not_true, eCmp, cmpD, decide_eq_false hs, decide_true, List.reverse_nil, eBlt, List.mapM_cons, List.mapM_nil, Option.pure_def, Option.bind_eq_bind, bltD, bltI, askO, l5, l6, i1, i2 hs, Option.map_some, decide_eq_false hu0, clsOf, hi, c_mk P _ _ hu0 sq, mu_text, kind_text P, met_rat, c_text P tq, ht']
/-! ### a text at its first slash -/
theorem parts (s : Str) : (47 ∉ tl s ∧ Txt.partition s "/" = ((s, "", "") : Str × Str × Str)) ∨ ∃ a b, s = a ++ "/" ++ b ∧ 47 ∉ tl a ∧ Txt.partition s "/" = ((a, "/", b) : Str × Str × Str) := by
  by_cases h : 47 ∈ tl s
  · obtain ⟨as, bs, e, h2⟩ := List.eq_append_cons_of_mem h
    refine .inr ⟨⟨as.toArray⟩, ⟨bs.toArray⟩, ?_, h2, ?_⟩
    · refine ext_tl ?_
      rw [tl_append, tl_append, e]
      show _ = as ++ [47] ++ bs
      simp
    · have e2 : s = (⟨as.toArray⟩ : Str) ++ "/" ++ (⟨bs.toArray⟩ : Str) := by
        refine ext_tl ?_
        rw [tl_append, tl_append, e]
        show _ = as ++ [47] ++ bs
        simp
      rw [e2]
      exact partition_app (s := 47) (S := []) tl_slash h2
  · exact .inl ⟨h, partition_none (s := 47) (S := []) tl_slash h⟩
theorem len_app (a b : Str) : (a ++ b).length = a.length + b.length := by
  rw [len_tl, tl_append, List.length_append, ← len_tl, ← len_tl]
/-- a text whose parts are not too long -/
structure PL (s : Str) : Prop where
  l : s.length ≤ line
  a : (Txt.partition s "/").1.length ≤ 570
  b : (Txt.partition s "/").2.2.length ≤ 570
theorem pl_of (hl : s.length ≤ 570) : PL s := by
  refine ⟨Nat.le_trans hl (by decide), ?_, ?_⟩
  · rcases parts s with ⟨_, hp⟩ | ⟨a, b, e, _, hp⟩
    · rw [hp]; exact hl
    · rw [hp]; rw [e, len_app, len_app] at hl; show a.length ≤ 570; omega
  · rcases parts s with ⟨_, hp⟩ | ⟨a, b, e, _, hp⟩
    · rw [hp]; show (0 : Nat) ≤ 570; omega
    · rw [hp]; rw [e, len_app, len_app] at hl; show b.length ≤ 570; omega
/-- what is no quotient's text is refused -/
theorem c_read_bad (P : RatPg Γ) (hl : PL s) (hs : ∀ r, textQ r ≠ s) : call Γ true (n + 5) (.c "Ratio" "read") [.d (.str s)] G = some (.error badText, G) := by
  rcases parts s with ⟨_, hp⟩ | ⟨a, b, e, _, hp⟩
  · have la := hl.a
    rw [hp] at la
    cases h1 : wholeB (unsign (tl s)) with
    | false => exact read_1 P hl.l la hp h1
    | true => rw [read_3 (u := 1) (r := 0) (b := "") P hl.l la (by decide) hp h1 (.inl ⟨rfl, rfl⟩), if_pos (.inr (hs _))]
  · have la := hl.a
    have lb := hl.b
    rw [hp] at la lb
    have hne : ("/" : Str) ≠ "" := by decide +kernel
    cases h1 : wholeB (unsign (tl a)) with
    | false => exact read_1 P hl.l la hp h1
    | true =>
      cases h3 : wholeB (tl b) with
      | false => exact read_2 P hl.l la lb hp h1 hne h3
      | true => rw [read_3 (r := 0) P hl.l la lb hp h1 (.inr ⟨hne, h3, rfl⟩), if_pos (.inr (hs _))]
theorem unsign_iL (i : Int) : unsign (iL i) = numL i.natAbs ∧ iv (iL i) = i := by
  unfold iL
  split
  · refine ⟨rfl, ?_⟩
    show -((digitsVal (numL i.natAbs) : Nat) : Int) = i
    rw [numL_val]
    omega
  · have h : 45 ∉ numL i.natAbs := numL_free (by omega)
    rcases unsign_cases (numL i.natAbs) with ⟨r, e, _, _⟩ | ⟨e1, e2⟩
    · rw [e] at h; simp at h
    · refine ⟨e1, ?_⟩
      rw [e2, numL_val]
      omega
theorem whole_num (n : Nat) : wholeB (numL n) = true := whole_iff.mpr ⟨numL_ne n, numL_digits n⟩
theorem iL_free (i : Int) : 47 ∉ iL i := by
  unfold iL
  have : 47 ∉ numL i.natAbs := numL_free (by omega)
  split
  · simp [this]
  · exact this
/-- a quotient's text is read; cut at its slash -/
theorem part_text (r : Rat) : r.den = 1 ∧ Txt.partition (textQ r) "/" = ((textQ r, "", "") : Str × Str × Str) ∨ r.den ≠ 1 ∧ Txt.partition (textQ r) "/" = ((ofI r.num, "/", ofI (r.den : Int)) : Str × Str × Str) := by
  by_cases hd : r.den = 1
  · have e : tl (textQ r) = iL r.num := by rw [tl_text, if_pos hd]
    exact .inl ⟨hd, partition_none (s := 47) (S := []) tl_slash (by rw [e]; exact iL_free _)⟩
  · have e : textQ r = ofI r.num ++ "/" ++ ofI (r.den : Int) := by
      refine ext_tl ?_
      rw [tl_text, if_neg hd, tl_append, tl_append, tl_ofI, tl_ofI, tl_slash]
      have : iL (r.den : Int) = numL r.den := by
        unfold iL
        rw [if_neg (by omega)]
        rfl
      rw [this]
      simp
    refine .inr ⟨hd, ?_⟩
    rw [e]
    exact partition_app (s := 47) (S := []) tl_slash (by rw [tl_ofI]; exact iL_free _)
theorem c_read_ok (P : RatPg Γ) {r : Rat} (hl : PL (textQ r)) : call Γ true (n + 5) (.c "Ratio" "read") [.d (.str (textQ r))] G = some (.ok (.n (ratD r)), G) := by
  rcases part_text r with ⟨hd, hp⟩ | ⟨hd, hp⟩
  · have e : tl (textQ r) = iL r.num := by rw [tl_text, if_pos hd]
    obtain ⟨u1, u2⟩ := unsign_iL r.num
    have h1 : wholeB (unsign (tl (textQ r))) = true := by rw [e, u1]; exact whole_num _
    have ek : Rat.divInt (iv (tl (textQ r))) 1 = r := by
      rw [e, u2]
      have := Rat.num_divInt_den r
      rw [hd] at this
      exact this
    have la := hl.a
    rw [hp] at la
    rw [read_3 (u := 1) (r := 0) (b := "") P hl.l la (by decide) hp h1 (.inl ⟨rfl, rfl⟩), ek, if_neg (by simp)]
  · obtain ⟨u1, u2⟩ := unsign_iL r.num
    have h1 : wholeB (unsign (tl (ofI r.num))) = true := by rw [tl_ofI, u1]; exact whole_num _
    have eb : tl (ofI (r.den : Int)) = numL r.den := by
      rw [tl_ofI]
      unfold iL
      rw [if_neg (by omega)]
      rfl
    have la := hl.a
    have lb := hl.b
    rw [hp] at la lb
    have ek : Rat.divInt (iv (tl (ofI r.num))) ((digitsVal (tl (ofI (r.den : Int))) : Nat) : Int) = r := by
      rw [tl_ofI, u2, eb, numL_val]
      exact Rat.num_divInt_den r
    rw [read_3 (r := 0) P hl.l la lb hp h1 (.inr ⟨show ("/" : Str) ≠ "" by decide +kernel, by rw [eb]; exact whole_num _, rfl⟩), ek, if_neg ?_]
    rw [eb, numL_val]
    have := r.den_pos
    simp
    omega
end
end L4

set_option Elab.async false
set_option linter.all false
set_option maxRecDepth 100000
set_option maxHeartbeats 4000000
/-! The laws' boxes of draws. -/
namespace L4
open PySem PySem.Spec PyProof.Rows L2
namespace BA
def b__law_box : Ss := (.cons (.set 2 false (.ite (.cmp .Lt (.var 1) (.blt .len (.cons (.var 0) .nil))) (.ix (.var 0) (.var 1)) (.bin .Add (.bin .Add (.bin .Mult (.con (.int 49979687)) (.var 1)) (.con (.int 97))) (.bin .Mod (.blt .sum (.cons (.slc (.var 0) .no (.yes (.con (.int 1)))) .nil)) (.con (.int 1000003))))))
    (.cons (.ret (.lst (.cons (.blt .max (.cons (.con (.int 0)) (.cons (.bin .Sub (.var 2) (.bin .Pow (.con (.int 10)) (.con (.int 18)))) .nil))) (.cons (.bin .Mod (.var 2) (.con (.int 2147483629))) (.cons (.con (.int 0)) .nil)))))
    .nil))
def fd__law_box : Fd := ⟨2, 3, [], b__law_box⟩
def b__law_take : Ss := (.cons (.ite (.cmp .Gt (.ix (.var 0) (.con (.int 0))) (.con (.int 0))) (.cons (.set 2 false (.bin .Mod (.ix (.var 0) (.con (.int 0))) (.var 1)))
    (.cons (.sub (.var 0) (.con (.int 0)) (.bin .FloorDiv (.ix (.var 0) (.con (.int 0))) (.var 1)))
    (.cons (.ret (.var 2))
    .nil))) .nil)
    (.cons (.sub (.var 0) (.con (.int 2)) (.bin .Add (.ix (.var 0) (.con (.int 2))) (.con (.int 1))))
    (.cons (.set 3 false (.bin .Mod (.bin .Pow (.bin .Add (.bin .Add (.ix (.var 0) (.con (.int 1))) (.bin .Mult (.con (.int 47111)) (.ix (.var 0) (.con (.int 2))))) (.con (.int 23))) (.con (.int 5))) (.con (.int 2147483647))))
    (.cons (.ret (.bin .Mod (.bin .FloorDiv (.bin .Mod (.bin .Pow (.bin .Add (.var 3) (.bin .Mult (.con (.int 88007)) (.ix (.var 0) (.con (.int 2))))) (.con (.int 3))) (.con (.int 2147483587))) (.con (.int 32))) (.var 1)))
    .nil))))
def fd__law_take : Fd := ⟨2, 4, [], b__law_take⟩
end BA
structure BoxPg (Γ : Pg) : Prop where
  _law_box : Γ.fn (.g "_law_box") = some BA.fd__law_box
  _law_take : Γ.fn (.g "_law_take") = some BA.fd__law_take
/-- a box after at most N draws -/
def BoxA (N : Int) (u : D) : Prop := ∃ a b c : Int, u = .lst [.int a, .int b, .int c] ∧ 0 ≤ a ∧ 0 ≤ b ∧ b < 2147483629 ∧ 0 ≤ c ∧ c ≤ N
theorem BoxA.mono {N M : Int} {u : D} (h : BoxA N u) (l : N ≤ M) : BoxA M u := by
  obtain ⟨a, b, c, h1, h2, h3, h4, h5, h6⟩ := h
  exact ⟨a, b, c, h1, h2, h3, h4, h5, by omega⟩
theorem take_set {G : Cs} {l : Nat} {u : D} : (G.set l u).take G.length = G.set l u := List.take_of_length_le (by simp)
theorem get_set {G : Cs} {l : Nat} {u v : D} (h : G[l]? = some u) : (G.set l v)[l]? = some v := by
  rw [List.getElem?_set_self (List.getElem?_eq_some_iff.mp h).1]
theorem at0 (a b c : D) : atI [a, b, c] 0 = some a := rfl
theorem at1 (a b c : D) : atI [a, b, c] 1 = some b := rfl
theorem at2 (a b c : D) : atI [a, b, c] 2 = some c := rfl
theorem put0 (a b c v : D) : putD (.lst [a, b, c]) (.int 0) v = some (.lst [v, b, c]) := rfl
theorem put2 (a b c v : D) : putD (.lst [a, b, c]) (.int 2) v = some (.lst [a, b, v]) := rfl
section
variable {Γ : Pg} {n : Nat} {G : Cs} {l : Nat}
theorem lt_pow {a : Int} (k : Nat) (h0 : 0 ≤ a) (h : a < 2 ^ k) : a.natAbs < 2 ^ k := by
  have e : ((2 ^ k : Nat) : Int) = (2 : Int) ^ k := by simp
  omega
theorem mul_ok {a b : Int} (ha : 0 ≤ a) (hb : 0 ≤ b) (ha2 : a < 2 ^ 64) (hb2 : b < 2 ^ 64) : decide (a.natAbs.log2 + b.natAbs.log2 < 1000000) = true := szM_of (k := 64) (lt_pow 64 ha ha2) (lt_pow 64 hb hb2) (by omega)
theorem c_take (P : BoxPg Γ) {u : D} {N m : Int} (hG : G[l]? = some u) (hb : BoxA N u) (hN : N < 10 ^ 12) (hm : 0 < m) (hm2 : m.natAbs.log2 < 9000) :
    ∃ (d : Int) (u' : D), call Γ true (n + 1) (.g "_law_take") [.r l, .d (.int m)] G = some (.ok (.d (.int d)), G.set l u') ∧ 0 ≤ d ∧ d < m ∧ BoxA (N + 1) u' := by
  obtain ⟨a, b, c, rfl, ha, hb0, hb1, hc0, hc1⟩ := hb
  have m0 : decide (m ≠ 0) = true := decide_eq_true (by omega)
  have m1 : decide (m.natAbs.log2 < 9000) = true := decide_eq_true hm2
  by_cases h0 : 0 < a
  · refine ⟨a.fmod m, .lst [.int (a.fdiv m), .int b, .int c], ?_, Int.fmod_nonneg_of_pos a hm, Int.fmod_lt_of_pos a hm, a.fdiv m, b, c, rfl, ?_, hb0, hb1, hc0, by omega⟩
    · rw [call_g P._law_take rfl]
      simp only [↓bind_ap, ↓ask_ap, ↓lift_ap, ↓sure_ap, pure_ap, stuck_ap, ↓cond_m, eX, eXs, eDs, eXo, eXt, eIt, eS, eSs, eHs, store, getV, fin, finD, asB, asI, Rv.frz, see, liftO, List.getElem?_cons_zero, List.getElem?_cons_succ, List.set_cons_zero, List.set_cons_succ, List.take_length, handed, start, List.map_cons, List.map_nil, List.length_cons, List.length_nil, List.replicate, List.cons_append, List.nil_append, List.append_nil, Nat.reduceAdd, Nat.reduceSub, hd_call, hd_cls, hd_exm, hd_has, runF, BA.fd__law_take, BA.b__law_take, hG, Option.bind_some, ixD, at0, at1, at2, eCmp, cmpD, decide_eq_true h0, eBin, binD, intBin, askO, m0, m1, Bool.and_self, Option.map_some, put0, take_set]
    · rw [Int.fdiv_eq_ediv_of_nonneg _ (by omega)]
      exact Int.ediv_nonneg ha (by omega)
  · have k1 := mul_ok (a := 47111) (b := c + 1) (by omega) (by omega) (by omega) (by omega)
    have k2 := mul_ok (a := 88007) (b := c + 1) (by omega) (by omega) (by omega) (by omega)
    have p1 : decide ((b + 47111 * (c + 1) + 23).natAbs < 2 ^ 64) = true := decide_eq_true (by omega)
    have p2 : ∀ x : Int, decide ((x.fmod 2147483647 + 88007 * (c + 1)).natAbs < 2 ^ 64) = true := fun x => decide_eq_true (by
      have h1 := Int.fmod_nonneg_of_pos x (b := 2147483647) (by omega)
      have h2 := Int.fmod_lt_of_pos x (b := 2147483647) (by omega)
      omega)
    have d1 : decide ((0 : Int) ≤ 5) = true := by decide
    have d2 : decide ((5 : Int) ≤ 1000000) = true := by decide
    have d3 : decide ((0 : Int) ≤ 3) = true := by decide
    have d4 : decide ((3 : Int) ≤ 1000000) = true := by decide
    have d5 : decide ((2147483647 : Int) ≠ 0) = true := by decide
    have d6 : decide ((2147483587 : Int) ≠ 0) = true := by decide
    have d7 : decide ((32 : Int) ≠ 0) = true := by decide
    have d8 : decide ((32 : Int).natAbs.log2 < 9000) = true := by decide +kernel
    refine ⟨(((((b + 47111 * (c + 1) + 23) ^ (5 : Int).toNat).fmod 2147483647 + 88007 * (c + 1)) ^ (3 : Int).toNat).fmod 2147483587 |>.fdiv 32).fmod m, .lst [.int a, .int b, .int (c + 1)], ?_, Int.fmod_nonneg_of_pos _ hm, Int.fmod_lt_of_pos _ hm, a, b, c + 1, rfl, ha, hb0, hb1, by omega, by omega⟩
    rw [call_g P._law_take rfl]
    simp only [↓bind_ap, ↓ask_ap, ↓lift_ap, ↓sure_ap, pure_ap, stuck_ap, ↓cond_m, eX, eXs, eDs, eXo, eXt, eIt, eS, eSs, eHs, store, getV, fin, finD, asB, asI, Rv.frz, see, liftO, List.getElem?_cons_zero, List.getElem?_cons_succ, List.set_cons_zero, List.set_cons_succ, List.take_length, handed, start, List.map_cons, List.map_nil, List.length_cons, List.length_nil, List.replicate, List.cons_append, List.nil_append, List.append_nil, Nat.reduceAdd, Nat.reduceSub, hd_call, hd_cls, hd_exm, hd_has, runF, BA.fd__law_take, BA.b__law_take, hG, get_set hG, Option.bind_some, ixD, at0, at1, at2, eCmp, cmpD, decide_eq_false h0, eBin, binD, intBin, askO, m0, k1, k2, p1, p2, d1, d2, d3, d4, d5, d6, d7, d8, Bool.and_self, Option.map_some, put2, take_set]
theorem atI_lt {α : Type} {xs : List α} {k : Nat} (h : k < xs.length) : atI xs (k : Int) = some xs[k] := by
  unfold atI
  unfold ixN
  rw [if_pos (by omega), if_pos (by omega)]
  simp [h]
theorem ints_map (ns : List Int) : intsL (ns.map D.int) = some ns := by
  induction ns with
  | nil => rfl
  | cons a l ih => rw [List.map_cons, intsL, ih]; rfl
theorem cut1 (ns : List Int) : cutL (ns.map D.int) none (some 1) = (ns.take 1).map D.int := by
  unfold cutL
  rw [HT.sIx_none, List.drop_zero, Nat.sub_zero, show ((1 : Int)) = ((1 : Nat) : Int) from rfl, HT.sIx_nat, List.length_map, ← List.map_take]
  congr 1
  cases ns <;> simp
theorem c_box (P : BoxPg Γ) (ns : List Int) (k : Nat) (hk : k < 2 ^ 60) : ∃ u : D, call Γ true (n + 1) (.g "_law_box") [.d (.scr ns), .d (.int (k : Int))] G = some (.ok (.n u), G) ∧ BoxA 0 u := by
  have key : ∃ cell : Int, call Γ true (n + 1) (.g "_law_box") [.d (.scr ns), .d (.int (k : Int))] G = some (.ok (.n (.lst [.int (if cell - 10 ^ (18 : Int).toNat > 0 then cell - 10 ^ (18 : Int).toNat else 0), .int (cell.fmod 2147483629), .int 0])), G) := by
    have k1 := mul_ok (a := 49979687) (b := (k : Int)) (by omega) (by omega) (by omega) (by omega)
    have d1 : decide ((0 : Int) ≤ 18) = true := by decide
    have d2 : decide ((18 : Int) ≤ 1000000) = true := by decide
    have d3 : decide ((10 : Int).natAbs < 2 ^ 64) = true := by decide
    have d4 : decide ((2147483629 : Int) ≠ 0) = true := by decide
    have d5 : decide ((1000003 : Int) ≠ 0) = true := by decide
    have d6 : decide (3 ≤ line) = true := by decide
    by_cases h : k < ns.length
    · refine ⟨ns[k], ?_⟩
      have hd : decide ((k : Int) < (ns.length : Int)) = true := decide_eq_true (by omega)
      rw [call_g P._law_box rfl]
      simp only [↓bind_ap, ↓ask_ap, ↓lift_ap, ↓sure_ap, pure_ap, stuck_ap, ↓cond_m, eX, eXs, eDs, eXo, eXt, eIt, eS, eSs, eHs, store, getV, fin, finD, asB, asI, Rv.frz, see, liftO, List.getElem?_cons_zero, List.getElem?_cons_succ, List.set_cons_zero, List.set_cons_succ, List.take_length, handed, start, List.map_cons, List.map_nil, List.length_cons, List.length_nil, List.replicate, List.cons_append, List.nil_append, List.append_nil, Nat.reduceAdd, Nat.reduceSub, hd_call, hd_cls, hd_exm, hd_has, runF, BA.fd__law_box, BA.b__law_box, eBlt, List.mapM_cons, List.mapM_nil, Option.pure_def, Option.bind_eq_bind, Option.bind_some, bltD, lenD, Option.map_some, eCmp, cmpD, hd, ixD, atI_lt h, eBin, binD, intBin, askO, d1, d2, d3, d4, d6, Bool.and_self]
    · refine ⟨49979687 * (k : Int) + 97 + ((ns.take 1).sum).fmod 1000003, ?_⟩
      have hd : decide ((k : Int) < (ns.length : Int)) = false := decide_eq_false (by omega)
      rw [call_g P._law_box rfl]
      simp only [↓bind_ap, ↓ask_ap, ↓lift_ap, ↓sure_ap, pure_ap, stuck_ap, ↓cond_m, eX, eXs, eDs, eXo, eXt, eIt, eS, eSs, eHs, store, getV, fin, finD, asB, asI, Rv.frz, see, liftO, List.getElem?_cons_zero, List.getElem?_cons_succ, List.set_cons_zero, List.set_cons_succ, List.take_length, handed, start, List.map_cons, List.map_nil, List.length_cons, List.length_nil, List.replicate, List.cons_append, List.nil_append, List.append_nil, Nat.reduceAdd, Nat.reduceSub, hd_call, hd_cls, hd_exm, hd_has, runF, BA.fd__law_box, BA.b__law_box, eBlt, List.mapM_cons, List.mapM_nil, Option.pure_def, Option.bind_eq_bind, Option.bind_some, bltD, lenD, Option.map_some, eCmp, cmpD, hd, slD, cut1, ints_map, eBin, binD, intBin, askO, k1, d1, d2, d3, d4, d5, d6, Bool.and_self]
  obtain ⟨cell, h⟩ := key
  refine ⟨_, h, _, _, _, rfl, ?_, Int.fmod_nonneg_of_pos _ (by omega), Int.fmod_lt_of_pos _ (by omega), Int.le_refl _, Int.le_refl _⟩
  split <;> omega
end
end L4

set_option Elab.async false
set_option linter.all false
set_option maxRecDepth 100000
set_option maxHeartbeats 4000000
/-! Lists of texts compared; what is a quotient's text. -/
namespace L4
open PySem PySem.Spec PyProof.Rows L2 NumText TL
/-- plain signs -/
def Asc (s : Str) : Prop := ∀ c ∈ tl s, c < 128
def sgs (l : List Nat) : List D := l.map fun c => D.str ⟨#[c]⟩
theorem seqL_sgs (l : List Nat) : seqL (sgs l) = true := by
  induction l with
  | nil => rfl
  | cons a l ih => show (seqD (.str ⟨#[a]⟩) && seqL (sgs l)) = true; rw [ih]; rfl
theorem lay_sgs (l : List Nat) (h : ∀ c ∈ l, c < 128) : PyData.canLayAll0 (pyL (sgs l)) = true := by
  induction l with
  | nil => rfl
  | cons a l ih =>
    have ha := h a List.mem_cons_self
    show (PyData.canLay0 (.str ⟨#[a]⟩) && PyData.canLayAll0 (pyL (sgs l))) = true
    rw [ih fun c hc => h c (List.mem_cons_of_mem _ hc), Bool.and_true]
    simp only [PyData.canLay0, PyData.strOk]
    simp
    omega
theorem dep_sgs (l : List Nat) : PyData.depthAll (pyL (sgs l)) = 0 := by
  induction l with
  | nil => rfl
  | cons a l ih => show max (PyData.depth (.str ⟨#[a]⟩)) (PyData.depthAll (pyL (sgs l))) = 0; rw [ih]; rfl
theorem ok_sgs {l : List Nat} (h : ∀ c ∈ l, c < 128) : eqOk (.lst (sgs l)) = true := by
  show (seqL (sgs l) && (PyData.canLay0 (.list (pyL (sgs l))) && decide (PyData.depth (.list (pyL (sgs l))) ≤ 64))) = true
  rw [seqL_sgs]
  simp only [PyData.canLay0, lay_sgs l h, PyData.depth, dep_sgs]
  rfl
theorem ne_nil {l : List Nat} (h : ∀ c ∈ l, c < 128) : cmpD .NotEq (.lst (sgs l)) (.lst []) = some (!l.isEmpty) := by
  show askO (eqOk (.lst (sgs l)) && eqOk (.lst [])) (some (!PyData.eqv (pyD (.lst (sgs l))) (pyD (.lst [])))) = _
  rw [ok_sgs h, show eqOk (.lst []) = true by decide +kernel]
  cases l <;> rfl
/-! ### what is a quotient's text -/
theorem numL_head (n : Nat) : ∃ c r, numL n = c :: r ∧ (c = 48 → n = 0 ∧ r = []) := by
  cases h : numL n with
  | nil => exact absurd h (numL_ne n)
  | cons c r =>
    refine ⟨c, r, rfl, fun hc => ?_⟩
    subst hc
    have hd := numL_digits n
    rw [h] at hd
    have hv := numL_val n
    rw [h] at hv
    have hv2 : digitsVal r = n := by rw [← hv]; rfl
    cases r with
    | nil => exact ⟨by rw [← hv2]; rfl, rfl⟩
    | cons d r =>
      exfalso
      by_cases h10 : n < 10
      · rw [numL_lt h10] at h
        have := congrArg List.length h
        simp at this
      · have h3 : numL n = numL (n / 10) ++ [48 + n % 10] := numL_step (by omega)
        have : ∀ (k m : Nat), m ≤ k → ∀ r, numL m = 48 :: r → m = 0 := by
          intro k
          induction k with
          | zero => intro m hm r _; omega
          | succ k ih =>
            intro m hm r hr
            by_cases h10 : m < 10
            · rw [numL_lt h10] at hr
              have := (List.cons.inj hr).1
              omega
            · rw [numL_step (by omega)] at hr
              cases hq : numL (m / 10) with
              | nil => exact absurd hq (numL_ne _)
              | cons e t =>
                rw [hq] at hr
                have he : e = 48 := (List.cons.inj hr).1
                subst he
                have := ih (m / 10) (by omega) t hq
                omega
        have := this n n (Nat.le_refl _) _ h
        omega
end L4

set_option Elab.async false
set_option linter.all false
set_option maxRecDepth 100000
set_option maxHeartbeats 4000000
/-! The text of the law: terms, tables, the check. -/
namespace L4
open PySem PySem.Spec PyProof.Rows L2 He
def top (i : Nat) : Stmt := PySem.Challenge.pw_kindsmeet_k03_texts_of_ratios.main.body.getD i (.Pass ⟨0, 0, 0, 0⟩)
abbrev d_is_integer : Stmt := top 7
def b_is_integer : Ss := (.cons (.ret (.and (.isi (.var 0) (.bt "int" "int")) (.nt (.isi (.var 0) (.bt "bool" "bool")))))
    .nil)
def fd_is_integer : Fd := ⟨1, 1, [], b_is_integer⟩
abbrev d_is_number : Stmt := top 8
def b_is_number : Ss := (.cons (.ret (.or (.fn "is_integer" (.cons (.var 0) .nil)) (.isi (.var 0) (.cl "Ratio"))))
    .nil)
def fd_is_number : Fd := ⟨1, 1, [], b_is_number⟩
abbrev d_common_divisor : Stmt := top 9
def x0_common_divisor : X := (.cmp .NotEq (.var 1) (.con (.int 0)))
def s1_common_divisor : Ss := (.cons (.par [0, 1] [false, false] (.cons (.var 1) (.cons (.bin .Mod (.var 0) (.var 1)) .nil)))
    .nil)
def b_common_divisor : Ss := (.cons (.while x0_common_divisor s1_common_divisor)
    (.cons (.ret (.blt .abs (.cons (.var 0) .nil)))
    .nil))
def fd_common_divisor : Fd := ⟨2, 2, [], b_common_divisor⟩
abbrev d_Ratio___init__ : Stmt := inClass (top 10) 0
def b_Ratio___init___4 : Ss := (.cons (.att (.var 0) "own_bottom" (.bin .FloorDiv (.var 2) (.var 3)))
    .nil)
def b_Ratio___init___3 : Ss := (.cons (.att (.var 0) "own_top" (.bin .FloorDiv (.var 1) (.var 3)))
    b_Ratio___init___4)
def b_Ratio___init___2 : Ss := (.cons (.ite (.cmp .Lt (.var 2) (.con (.int 0))) (.cons (.set 3 false (.neg (.var 3)))
    .nil) .nil)
    b_Ratio___init___3)
def b_Ratio___init___1 : Ss := (.cons (.set 3 false (.fn "common_divisor" (.cons (.var 1) (.cons (.var 2) .nil))))
    b_Ratio___init___2)
def b_Ratio___init__ : Ss := (.cons (.ite (.cmp .Eq (.var 2) (.con (.int 0))) (.cons (.rai "ByZero" [] .nil)
    .nil) .nil)
    b_Ratio___init___1)
def fd_Ratio___init__ : Fd := ⟨3, 4, [.int 1], b_Ratio___init__⟩
abbrev d_Ratio_top : Stmt := inClass (top 10) 1
def b_Ratio_top : Ss := (.cons (.ret (.att (.var 0) "own_top"))
    .nil)
def fd_Ratio_top : Fd := ⟨1, 1, [], b_Ratio_top⟩
abbrev d_Ratio_bottom : Stmt := inClass (top 10) 2
def b_Ratio_bottom : Ss := (.cons (.ret (.att (.var 0) "own_bottom"))
    .nil)
def fd_Ratio_bottom : Fd := ⟨1, 1, [], b_Ratio_bottom⟩
abbrev d_Ratio___add__ : Stmt := inClass (top 10) 3
def b_Ratio___add__ : Ss := (.cons (.set 2 false (.fn "as_ratio" (.cons (.var 1) .nil)))
    (.cons (.ret (.mk "Ratio" (.cons (.bin .Add (.bin .Mult (.prp (.var 0) "top") (.prp (.var 2) "bottom")) (.bin .Mult (.prp (.var 2) "top") (.prp (.var 0) "bottom"))) (.cons (.bin .Mult (.prp (.var 0) "bottom") (.prp (.var 2) "bottom")) .nil))))
    .nil))
def fd_Ratio___add__ : Fd := ⟨2, 3, [], b_Ratio___add__⟩
abbrev d_Ratio___sub__ : Stmt := inClass (top 10) 4
def b_Ratio___sub__ : Ss := (.cons (.set 2 false (.fn "as_ratio" (.cons (.var 1) .nil)))
    (.cons (.ret (.mk "Ratio" (.cons (.bin .Sub (.bin .Mult (.prp (.var 0) "top") (.prp (.var 2) "bottom")) (.bin .Mult (.prp (.var 2) "top") (.prp (.var 0) "bottom"))) (.cons (.bin .Mult (.prp (.var 0) "bottom") (.prp (.var 2) "bottom")) .nil))))
    .nil))
def fd_Ratio___sub__ : Fd := ⟨2, 3, [], b_Ratio___sub__⟩
abbrev d_Ratio___mul__ : Stmt := inClass (top 10) 5
def b_Ratio___mul__ : Ss := (.cons (.set 2 false (.fn "as_ratio" (.cons (.var 1) .nil)))
    (.cons (.ret (.mk "Ratio" (.cons (.bin .Mult (.prp (.var 0) "top") (.prp (.var 2) "top")) (.cons (.bin .Mult (.prp (.var 0) "bottom") (.prp (.var 2) "bottom")) .nil))))
    .nil))
def fd_Ratio___mul__ : Fd := ⟨2, 3, [], b_Ratio___mul__⟩
abbrev d_Ratio___neg__ : Stmt := inClass (top 10) 6
def b_Ratio___neg__ : Ss := (.cons (.ret (.mk "Ratio" (.cons (.neg (.prp (.var 0) "top")) (.cons (.prp (.var 0) "bottom") .nil))))
    .nil)
def fd_Ratio___neg__ : Fd := ⟨1, 1, [], b_Ratio___neg__⟩
abbrev d_Ratio___eq__ : Stmt := inClass (top 10) 7
def b_Ratio___eq__ : Ss := (.cons (.ite (.fn "is_integer" (.cons (.var 1) .nil)) (.cons (.ret (.and (.cmp .Eq (.prp (.var 0) "bottom") (.con (.int 1))) (.cmp .Eq (.prp (.var 0) "top") (.var 1))))
    .nil) .nil)
    (.cons (.ret (.and (.isi (.var 1) (.cl "Ratio")) (.and (.cmp .Eq (.prp (.var 0) "top") (.prp (.var 1) "top")) (.cmp .Eq (.prp (.var 0) "bottom") (.prp (.var 1) "bottom")))))
    .nil))
def fd_Ratio___eq__ : Fd := ⟨2, 2, [], b_Ratio___eq__⟩
abbrev d_Ratio___lt__ : Stmt := inClass (top 10) 8
def b_Ratio___lt__ : Ss := (.cons (.set 2 false (.fn "as_ratio" (.cons (.var 1) .nil)))
    (.cons (.ret (.cmp .Lt (.bin .Mult (.prp (.var 0) "top") (.prp (.var 2) "bottom")) (.bin .Mult (.prp (.var 2) "top") (.prp (.var 0) "bottom"))))
    .nil))
def fd_Ratio___lt__ : Fd := ⟨2, 3, [], b_Ratio___lt__⟩
abbrev d_Ratio___le__ : Stmt := inClass (top 10) 9
def b_Ratio___le__ : Ss := (.cons (.set 2 false (.fn "as_ratio" (.cons (.var 1) .nil)))
    (.cons (.ret (.cmp .LtE (.bin .Mult (.prp (.var 0) "top") (.prp (.var 2) "bottom")) (.bin .Mult (.prp (.var 2) "top") (.prp (.var 0) "bottom"))))
    .nil))
def fd_Ratio___le__ : Fd := ⟨2, 3, [], b_Ratio___le__⟩
abbrev d_Ratio_over : Stmt := inClass (top 10) 10
def b_Ratio_over : Ss := (.cons (.set 2 false (.fn "as_ratio" (.cons (.var 1) .nil)))
    (.cons (.ret (.mk "Ratio" (.cons (.bin .Mult (.prp (.var 0) "top") (.prp (.var 2) "bottom")) (.cons (.bin .Mult (.prp (.var 0) "bottom") (.prp (.var 2) "top")) .nil))))
    .nil))
def fd_Ratio_over : Fd := ⟨2, 3, [], b_Ratio_over⟩
abbrev d_Ratio_text : Stmt := inClass (top 10) 11
def b_Ratio_text : Ss := (.cons (.ret (.ite (.cmp .Eq (.prp (.var 0) "bottom") (.con (.int 1))) (.blt .str (.cons (.prp (.var 0) "top") .nil)) (.fst (.cons (.prp (.var 0) "top") (.cons (.con (.str "/")) (.cons (.prp (.var 0) "bottom") .nil))))))
    .nil)
def fd_Ratio_text : Fd := ⟨1, 1, [], b_Ratio_text⟩
abbrev d_Ratio_read : Stmt := inClass (top 10) 12
def b_Ratio_read_4 : Ss := (.cons (.ret (.mkv 0 (.cons (.blt .int (.cons (.var 2) .nil)) (.cons (.var 5) .nil))))
    .nil)
def b_Ratio_read_3 : Ss := (.cons (.ite (.or (.cmp .Eq (.var 5) (.con (.int 0))) (.cmp .NotEq (.met (.mkv 0 (.cons (.blt .int (.cons (.var 2) .nil)) (.cons (.var 5) .nil))) "text" .nil) (.var 1))) (.cons (.rai "BadText" [] .nil)
    .nil) .nil)
    b_Ratio_read_4)
def b_Ratio_read_2 : Ss := (.cons (.set 5 false (.ite (.cmp .NotEq (.var 3) (.con (.str ""))) (.blt .int (.cons (.var 4) .nil)) (.con (.int 1))))
    b_Ratio_read_3)
def b_Ratio_read_1 : Ss := (.cons (.ite (.or (.nt (.fn "is_whole" (.cons (.met (.var 2) "removeprefix" (.cons (.con (.str "-")) .nil)) .nil))) (.and (.cmp .NotEq (.var 3) (.con (.str ""))) (.nt (.fn "is_whole" (.cons (.var 4) .nil))))) (.cons (.rai "BadText" [] .nil)
    .nil) .nil)
    b_Ratio_read_2)
def b_Ratio_read : Ss := (.cons (.tups [2, 3, 4] (.met (.var 1) "partition" (.cons (.con (.str "/")) .nil)))
    b_Ratio_read_1)
def fd_Ratio_read : Fd := ⟨2, 6, [], b_Ratio_read⟩
abbrev d_is_whole : Stmt := top 11
def x0_is_whole : X := (.cmp .In (.var 1) (.glo "DIGITS" (.str "0123456789")))
def b_is_whole : Ss := (.cons (.ret (.and (.cmp .NotEq (.var 0) (.con (.str ""))) (.blt .all (.cons (.lc x0_is_whole (.one [1] (.name 1) (.val (.var 0)) .no)) .nil))))
    .nil)
def fd_is_whole : Fd := ⟨1, 2, [], b_is_whole⟩
abbrev d_as_ratio : Stmt := top 12
def b_as_ratio : Ss := (.cons (.ite (.nt (.fn "is_number" (.cons (.var 0) .nil))) (.cons (.rai "BadNumber" ["given"] (.cons (.var 0) .nil))
    .nil) .nil)
    (.cons (.ret (.ite (.isi (.var 0) (.cl "Ratio")) (.var 0) (.mk "Ratio" (.cons (.var 0) .nil))))
    .nil))
def fd_as_ratio : Fd := ⟨1, 1, [], b_as_ratio⟩
abbrev d__law_box : Stmt := top 14
def b__law_box : Ss := (.cons (.set 2 false (.ite (.cmp .Lt (.var 1) (.blt .len (.cons (.var 0) .nil))) (.ix (.var 0) (.var 1)) (.bin .Add (.bin .Add (.bin .Mult (.con (.int 49979687)) (.var 1)) (.con (.int 97))) (.bin .Mod (.blt .sum (.cons (.slc (.var 0) .no (.yes (.con (.int 1)))) .nil)) (.con (.int 1000003))))))
    (.cons (.ret (.lst (.cons (.blt .max (.cons (.con (.int 0)) (.cons (.bin .Sub (.var 2) (.bin .Pow (.con (.int 10)) (.con (.int 18)))) .nil))) (.cons (.bin .Mod (.var 2) (.con (.int 2147483629))) (.cons (.con (.int 0)) .nil)))))
    .nil))
def fd__law_box : Fd := ⟨2, 3, [], b__law_box⟩
abbrev d__law_take : Stmt := top 15
def b__law_take_3 : Ss := (.cons (.ret (.bin .Mod (.bin .FloorDiv (.bin .Mod (.bin .Pow (.bin .Add (.var 3) (.bin .Mult (.con (.int 88007)) (.ix (.var 0) (.con (.int 2))))) (.con (.int 3))) (.con (.int 2147483587))) (.con (.int 32))) (.var 1)))
    .nil)
def b__law_take_2 : Ss := (.cons (.set 3 false (.bin .Mod (.bin .Pow (.bin .Add (.bin .Add (.ix (.var 0) (.con (.int 1))) (.bin .Mult (.con (.int 47111)) (.ix (.var 0) (.con (.int 2))))) (.con (.int 23))) (.con (.int 5))) (.con (.int 2147483647))))
    b__law_take_3)
def b__law_take_1 : Ss := (.cons (.sub (.var 0) (.con (.int 2)) (.bin .Add (.ix (.var 0) (.con (.int 2))) (.con (.int 1))))
    b__law_take_2)
def b__law_take : Ss := (.cons (.ite (.cmp .Gt (.ix (.var 0) (.con (.int 0))) (.con (.int 0))) (.cons (.set 2 false (.bin .Mod (.ix (.var 0) (.con (.int 0))) (.var 1)))
    (.cons (.sub (.var 0) (.con (.int 0)) (.bin .FloorDiv (.ix (.var 0) (.con (.int 0))) (.var 1)))
    (.cons (.ret (.var 2))
    .nil))) .nil)
    b__law_take_1)
def fd__law_take : Fd := ⟨2, 4, [], b__law_take⟩
abbrev d__law_word : Stmt := top 16
def x0__law_word : X := (.cmp .Gt (.var 3) (.con (.int 0)))
def s1__law_word : Ss := (.cons (.par [2, 3] [false, false] (.cons (.var 3) (.cons (.bin .Mod (.var 2) (.var 3)) .nil)))
    .nil)
def b__law_word_2 : Ss := (.cons (.ret (.ite (.cmp .Eq (.var 1) (.var 2)) (.blt .str (.cons (.bin .FloorDiv (.var 0) (.var 2)) .nil)) (.bin .Add (.bin .Add (.blt .str (.cons (.bin .FloorDiv (.var 0) (.var 2)) .nil)) (.con (.str "/"))) (.blt .str (.cons (.bin .FloorDiv (.var 1) (.var 2)) .nil)))))
    .nil)
def b__law_word_1 : Ss := (.cons (.while x0__law_word s1__law_word)
    b__law_word_2)
def b__law_word : Ss := (.cons (.par [2, 3] [false, false] (.cons (.blt .abs (.cons (.var 0) .nil)) (.cons (.var 1) .nil)))
    b__law_word_1)
def fd__law_word : Fd := ⟨2, 4, [], b__law_word⟩
abbrev d__law_is_number : Stmt := top 17
def x1__law_is_number : X := (.cmp .NotIn (.var 4) (.con (.str "0123456789")))
def s0__law_is_number : Ss := (.cons (.ite (.or (.cmp .Eq (.var 3) (.con (.str ""))) (.cmp .NotEq (.lc (.var 4) (.one [4] (.name 4) (.val (.var 3)) (.yes x1__law_is_number))) (.lst .nil))) (.cons (.ret (.con (.bool false)))
    .nil) .nil)
    (.cons (.ite (.and (.cmp .Gt (.blt .len (.cons (.var 3) .nil)) (.con (.int 1))) (.cmp .Eq (.ix (.var 3) (.con (.int 0))) (.con (.str "0")))) (.cons (.ret (.con (.bool false)))
    .nil) .nil)
    .nil))
def b__law_is_number_4 : Ss := (.cons (.ret (.and (.cmp .Eq (.blt .len (.cons (.var 1) .nil)) (.con (.int 2))) (.and (.cmp .Gt (.blt .int (.cons (.ix (.var 1) (.con (.int 1))) .nil)) (.con (.int 1))) (.cmp .Eq (.fn "_law_word" (.cons (.blt .int (.cons (.ix (.var 1) (.con (.int 0))) .nil)) (.cons (.blt .int (.cons (.ix (.var 1) (.con (.int 1))) .nil)) .nil))) (.var 0)))))
    .nil)
def b__law_is_number_3 : Ss := (.cons (.ite (.cmp .Eq (.blt .len (.cons (.var 1) .nil)) (.con (.int 1))) (.cons (.ret (.cmp .NotEq (.var 0) (.con (.str "-0"))))
    .nil) .nil)
    b__law_is_number_4)
def b__law_is_number_2 : Ss := (.cons (.for (.name 3) (.val (.bin .Add (.lst (.cons (.var 2) .nil)) (.slc (.var 1) (.yes (.con (.int 1))) .no))) s0__law_is_number)
    b__law_is_number_3)
def b__law_is_number_1 : Ss := (.cons (.set 2 false (.ite (.cmp .Eq (.slc (.ix (.var 1) (.con (.int 0))) .no (.yes (.con (.int 1)))) (.con (.str "-"))) (.slc (.ix (.var 1) (.con (.int 0))) (.yes (.con (.int 1))) .no) (.ix (.var 1) (.con (.int 0)))))
    b__law_is_number_2)
def b__law_is_number : Ss := (.cons (.set 1 false (.met (.var 0) "split" (.cons (.con (.str "/")) .nil)))
    b__law_is_number_1)
def fd__law_is_number : Fd := ⟨1, 5, [], b__law_is_number⟩
abbrev d__law_bent : Stmt := top 18
def b__law_bent_4 : Ss := (.cons (.ret (.ix (.lst (.cons (.bin .Add (.slc (.var 1) .no (.yes (.var 2))) (.slc (.var 1) (.yes (.bin .Add (.var 2) (.con (.int 1)))) .no)) (.cons (.bin .Add (.bin .Add (.slc (.var 1) .no (.yes (.var 2))) (.var 3)) (.slc (.var 1) (.yes (.bin .Add (.var 2) (.con (.int 1)))) .no)) (.cons (.var 1) (.cons (.bin .Add (.var 1) (.var 3)) .nil))))) (.bin .Sub (.var 4) (.con (.int 1)))))
    .nil)
def b__law_bent_3 : Ss := (.cons (.ite (.or (.cmp .Eq (.var 4) (.con (.int 0))) (.cmp .Eq (.var 2) (.blt .len (.cons (.var 1) .nil)))) (.cons (.ret (.bin .Add (.bin .Add (.slc (.var 1) .no (.yes (.var 2))) (.var 3)) (.slc (.var 1) (.yes (.var 2)) .no)))
    .nil) .nil)
    b__law_bent_4)
def b__law_bent_2 : Ss := (.cons (.set 4 false (.fn "_law_take" (.cons (.var 0) (.cons (.con (.int 5)) .nil))))
    b__law_bent_3)
def b__law_bent_1 : Ss := (.cons (.set 3 false (.ix (.con (.str "0123456789-+/. _ax\n")) (.fn "_law_take" (.cons (.var 0) (.cons (.con (.int 19)) .nil)))))
    b__law_bent_2)
def b__law_bent : Ss := (.cons (.set 2 false (.fn "_law_take" (.cons (.var 0) (.cons (.bin .Add (.blt .len (.cons (.var 1) .nil)) (.con (.int 1))) .nil))))
    b__law_bent_1)
def fd__law_bent : Fd := ⟨2, 5, [], b__law_bent⟩
abbrev d__law_told : Stmt := top 19
def b__law_told : Ss := (.cons (.try (.cons (.ret (.met (.glo "Ratio" (.cl "Ratio")) "read" (.cons (.var 0) .nil)))
    .nil) (.cons "BadText" none (.cons (.ret (.con .non))
    .nil) .nil))
    .nil)
def fd__law_told : Fd := ⟨1, 1, [], b__law_told⟩
abbrev d_law : Stmt := top 20
def s1_law_4 : Ss := (.cons (.ite (.cmp .Eq (.bin .Mod (.var 12) (.con (.int 2))) (.con (.int 1))) (.cons (.set 6 false (.var 13))
    .nil) .nil)
    .nil)
def s1_law_3 : Ss := (.cons (.ite (.and (.cmp .IsNot (.var 14) (.con .non)) (.cmp .NotEq (.met (.var 14) "text" .nil) (.var 13))) (.cons (.ret (.con (.bool false)))
    .nil) .nil)
    s1_law_4)
def s1_law_2 : Ss := (.cons (.ite (.cmp .NotEq (.cmp .IsNot (.var 14) (.con .non)) (.fn "_law_is_number" (.cons (.var 13) .nil))) (.cons (.ret (.con (.bool false)))
    .nil) .nil)
    s1_law_3)
def s1_law_1 : Ss := (.cons (.set 14 false (.fn "_law_told" (.cons (.var 13) .nil)))
    s1_law_2)
def s1_law : Ss := (.cons (.set 13 false (.fn "_law_bent" (.cons (.var 2) (.cons (.var 6) .nil))))
    s1_law_1)
def s0_law_12 : Ss := (.cons (.for (.name 12) (.rg1 (.con (.int 8))) s1_law)
    .nil)
def s0_law_11 : Ss := (.cons (.ite (.and (.cmp .NotEq (.var 8) (.con (.int 0))) (.cmp .NotEq (.met (.met (.var 7) "over" (.cons (.var 10) .nil)) "text" .nil) (.fn "_law_word" (.cons (.bin .Mult (.bin .Mult (.var 4) (.var 9)) (.var 11)) (.cons (.bin .Mult (.bin .Mult (.var 5) (.var 8)) (.var 11)) .nil))))) (.cons (.ret (.con (.bool false)))
    .nil) .nil)
    s0_law_12)
def s0_law_10 : Ss := (.cons (.set 11 false (.ite (.cmp .Gt (.var 8) (.con (.int 0))) (.con (.int 1)) (.neg (.con (.int 1)))))
    s0_law_11)
def s0_law_9 : Ss := (.cons (.ite (.or (.cmp .NotEq (.met (.bin .Sub (.var 7) (.var 10)) "text" .nil) (.fn "_law_word" (.cons (.bin .Sub (.bin .Mult (.var 4) (.var 9)) (.bin .Mult (.var 8) (.var 5))) (.cons (.bin .Mult (.var 5) (.var 9)) .nil)))) (.cmp .NotEq (.met (.neg (.var 7)) "text" .nil) (.fn "_law_word" (.cons (.bin .Sub (.con (.int 0)) (.var 4)) (.cons (.var 5) .nil))))) (.cons (.ret (.con (.bool false)))
    .nil) .nil)
    s0_law_10)
def s0_law_8 : Ss := (.cons (.ite (.or (.cmp .NotEq (.met (.bin .Add (.var 7) (.var 10)) "text" .nil) (.fn "_law_word" (.cons (.bin .Add (.bin .Mult (.var 4) (.var 9)) (.bin .Mult (.var 8) (.var 5))) (.cons (.bin .Mult (.var 5) (.var 9)) .nil)))) (.cmp .NotEq (.met (.bin .Mult (.var 7) (.var 10)) "text" .nil) (.fn "_law_word" (.cons (.bin .Mult (.var 4) (.var 8)) (.cons (.bin .Mult (.var 5) (.var 9)) .nil))))) (.cons (.ret (.con (.bool false)))
    .nil) .nil)
    s0_law_9)
def s0_law_7 : Ss := (.cons (.set 10 false (.mk "Ratio" (.cons (.var 8) (.cons (.var 9) .nil))))
    s0_law_8)
def s0_law_6 : Ss := (.cons (.par [8, 9] [false, false] (.cons (.bin .Sub (.fn "_law_take" (.cons (.var 2) (.cons (.con (.int 99)) .nil))) (.con (.int 49))) (.cons (.bin .Add (.con (.int 1)) (.fn "_law_take" (.cons (.var 2) (.cons (.con (.int 40)) .nil)))) .nil)))
    s0_law_7)
def s0_law_5 : Ss := (.cons (.ite (.or (.cmp .NotEq (.met (.var 7) "text" .nil) (.var 6)) (.nt (.fn "_law_is_number" (.cons (.var 6) .nil)))) (.cons (.ret (.con (.bool false)))
    .nil) .nil)
    s0_law_6)
def s0_law_4 : Ss := (.cons (.set 7 false (.mk "Ratio" (.cons (.var 4) (.cons (.var 5) .nil))))
    s0_law_5)
def s0_law_3 : Ss := (.cons (.set 6 false (.fn "_law_word" (.cons (.var 4) (.cons (.var 5) .nil))))
    s0_law_4)
def s0_law_2 : Ss := (.cons (.par [4, 5] [false, false] (.cons (.bin .Sub (.fn "_law_take" (.cons (.var 2) (.cons (.bin .Mult (.con (.int 2)) (.var 3)) .nil))) (.var 3)) (.cons (.bin .Add (.con (.int 1)) (.fn "_law_take" (.cons (.var 2) (.cons (.var 3) .nil)))) .nil)))
    s0_law_3)
def s0_law_1 : Ss := (.cons (.set 3 false (.ix (.lst (.cons (.con (.int 9)) (.cons (.con (.int 40)) (.cons (.bin .Pow (.con (.int 10)) (.con (.int 6))) (.cons (.bin .Pow (.con (.int 10)) (.con (.int 27))) .nil))))) (.fn "_law_take" (.cons (.var 2) (.cons (.con (.int 4)) .nil)))))
    s0_law_2)
def s0_law : Ss := (.cons (.set 2 true (.fn "_law_box" (.cons (.var 0) (.cons (.var 1) .nil))))
    s0_law_1)
def b_law_4 : Ss := (.cons (.ret (.and (.cmp .Is (.fn "_law_told" (.cons (.con (.str "")) .nil)) (.con .non)) (.cmp .Eq (.fn "_law_told" (.cons (.con (.str "4/3")) .nil)) (.mk "Ratio" (.cons (.con (.int 4)) (.cons (.con (.int 3)) .nil))))))
    .nil)
def b_law_3 : Ss := (.cons (.ite (.or (.cmp .NotEq (.met (.mk "Ratio" (.cons (.var 15) (.cons (.var 16) .nil))) "text" .nil) (.var 6)) (.or (.cmp .NotEq (.fn "_law_told" (.cons (.var 6) .nil)) (.mk "Ratio" (.cons (.var 15) (.cons (.var 16) .nil)))) (.cmp .IsNot (.fn "_law_told" (.cons (.bin .Add (.con (.str "0")) (.var 6)) .nil)) (.con .non)))) (.cons (.ret (.con (.bool false)))
    .nil) .nil)
    b_law_4)
def b_law_2 : Ss := (.cons (.set 6 false (.fn "_law_word" (.cons (.var 15) (.cons (.var 16) .nil))))
    b_law_3)
def b_law_1 : Ss := (.cons (.par [15, 16] [false, false] (.cons (.blt .int (.cons (.bin .Add (.bin .Add (.con (.str "1")) (.bin .Mult (.con (.str "0")) (.con (.int 299)))) (.con (.str "3"))) .nil)) (.cons (.blt .int (.cons (.bin .Add (.con (.str "2")) (.bin .Mult (.con (.str "0")) (.con (.int 280)))) .nil)) .nil)))
    b_law_2)
def b_law : Ss := (.cons (.for (.name 1) (.rg1 (.blt .max (.cons (.con (.int 2)) (.cons (.blt .min (.cons (.con (.int 10)) (.cons (.blt .len (.cons (.var 0) .nil)) .nil))) .nil)))) s0_law)
    b_law_1)
def fd_law : Fd := ⟨1, 17, [], b_law⟩
def fns : List (Fi × Fd) := [(.g "is_integer", fd_is_integer), (.g "is_number", fd_is_number), (.g "common_divisor", fd_common_divisor), (.k "Ratio", fd_Ratio___init__), (.p "Ratio" "top", fd_Ratio_top), (.p "Ratio" "bottom", fd_Ratio_bottom), (.m "Ratio" "__add__", fd_Ratio___add__), (.m "Ratio" "__sub__", fd_Ratio___sub__), (.m "Ratio" "__mul__", fd_Ratio___mul__), (.m "Ratio" "__neg__", fd_Ratio___neg__), (.m "Ratio" "__eq__", fd_Ratio___eq__), (.m "Ratio" "__lt__", fd_Ratio___lt__), (.m "Ratio" "__le__", fd_Ratio___le__), (.m "Ratio" "over", fd_Ratio_over), (.m "Ratio" "text", fd_Ratio_text), (.c "Ratio" "read", fd_Ratio_read), (.g "is_whole", fd_is_whole), (.g "as_ratio", fd_as_ratio), (.g "_law_box", fd__law_box), (.g "_law_take", fd__law_take), (.g "_law_word", fd__law_word), (.g "_law_is_number", fd__law_is_number), (.g "_law_bent", fd__law_bent), (.g "_law_told", fd__law_told), (.g "law", fd_law)]
def src : Sou where
  own := ["Ratio"]
  base := "KindsError"
  ers := [("ByZero", []), ("BadText", []), ("BadNumber", ["given"])]
  gls := [("DIGITS", D.str "0123456789"), ("Ratio", D.cl "Ratio")]
  frs := ["isinstance", "int", "bool", "abs", "property", "str", "classmethod", "all", "max", "len", "sum", "range", "min"]
  fns := fns
  fds := ["given", "own_top", "own_bottom"]
  exn := [("BadText", true)]
  exm := [(("BadText", "ByZero"), false), (("BadText", "BadText"), true), (("BadText", "BadNumber"), false)]
abbrev pg : Pg := src.pg
abbrev tb : Tb := src.tb
theorem ck_is_integer : chkSs ⟨tb, ["value"], defScope d_is_integer, fun _ => true⟩ b_is_integer (defBody d_is_integer) = true := by decide +kernel
theorem ck_is_number : chkSs ⟨tb, ["value"], defScope d_is_number, fun _ => true⟩ b_is_number (defBody d_is_number) = true := by decide +kernel
theorem ck_common_divisor : chkSs ⟨tb, ["one", "other"], defScope d_common_divisor, fun _ => true⟩ b_common_divisor (defBody d_common_divisor) = true := by decide +kernel
theorem ck_Ratio___init__ : chkSs ⟨tb, ["self", "top", "bottom", "divisor"], defScope d_Ratio___init__, fun _ => true⟩ b_Ratio___init__ (defBody d_Ratio___init__) = true := by decide +kernel
theorem ck_Ratio_top : chkSs ⟨tb, ["self"], defScope d_Ratio_top, fun _ => true⟩ b_Ratio_top (defBody d_Ratio_top) = true := by decide +kernel
theorem ck_Ratio_bottom : chkSs ⟨tb, ["self"], defScope d_Ratio_bottom, fun _ => true⟩ b_Ratio_bottom (defBody d_Ratio_bottom) = true := by decide +kernel
theorem ck_Ratio___add__ : chkSs ⟨tb, ["self", "number", "other"], defScope d_Ratio___add__, fun _ => true⟩ b_Ratio___add__ (defBody d_Ratio___add__) = true := by decide +kernel
theorem ck_Ratio___sub__ : chkSs ⟨tb, ["self", "number", "other"], defScope d_Ratio___sub__, fun _ => true⟩ b_Ratio___sub__ (defBody d_Ratio___sub__) = true := by decide +kernel
theorem ck_Ratio___mul__ : chkSs ⟨tb, ["self", "number", "other"], defScope d_Ratio___mul__, fun _ => true⟩ b_Ratio___mul__ (defBody d_Ratio___mul__) = true := by decide +kernel
theorem ck_Ratio___neg__ : chkSs ⟨tb, ["self"], defScope d_Ratio___neg__, fun _ => true⟩ b_Ratio___neg__ (defBody d_Ratio___neg__) = true := by decide +kernel
theorem ck_Ratio___eq__ : chkSs ⟨tb, ["self", "other"], defScope d_Ratio___eq__, fun _ => true⟩ b_Ratio___eq__ (defBody d_Ratio___eq__) = true := by decide +kernel
theorem ck_Ratio___lt__ : chkSs ⟨tb, ["self", "number", "other"], defScope d_Ratio___lt__, fun _ => true⟩ b_Ratio___lt__ (defBody d_Ratio___lt__) = true := by decide +kernel
theorem ck_Ratio___le__ : chkSs ⟨tb, ["self", "number", "other"], defScope d_Ratio___le__, fun _ => true⟩ b_Ratio___le__ (defBody d_Ratio___le__) = true := by decide +kernel
theorem ck_Ratio_over : chkSs ⟨tb, ["self", "number", "other"], defScope d_Ratio_over, fun _ => true⟩ b_Ratio_over (defBody d_Ratio_over) = true := by decide +kernel
theorem ck_Ratio_text : chkSs ⟨tb, ["self"], defScope d_Ratio_text, fun _ => true⟩ b_Ratio_text (defBody d_Ratio_text) = true := by decide +kernel
theorem ck_Ratio_read : chkSs ⟨tb, ["cls", "text", "top", "slash", "bottom", "under"], defScope d_Ratio_read, fun _ => true⟩ b_Ratio_read (defBody d_Ratio_read) = true := by decide +kernel
theorem ck_is_whole : chkSs ⟨tb, ["word", "sign"], defScope d_is_whole, fun _ => true⟩ b_is_whole (defBody d_is_whole) = true := by decide +kernel
theorem ck_as_ratio : chkSs ⟨tb, ["given"], defScope d_as_ratio, fun _ => true⟩ b_as_ratio (defBody d_as_ratio) = true := by decide +kernel
theorem ck__law_box : chkSs ⟨tb, ["_law_script", "_law_k", "_law_cell"], defScope d__law_box, fun _ => true⟩ b__law_box (defBody d__law_box) = true := by decide +kernel
theorem ck__law_take : chkSs ⟨tb, ["_law_box_here", "_law_many", "_law_digit", "_law_blend"], defScope d__law_take, fun _ => true⟩ b__law_take (defBody d__law_take) = true := by decide +kernel
theorem ck__law_word : chkSs ⟨tb, ["_law_top", "_law_under", "_law_one", "_law_other"], defScope d__law_word, fun _ => true⟩ b__law_word (defBody d__law_word) = true := by decide +kernel
theorem ck__law_is_number : chkSs ⟨tb, ["_law_word_here", "_law_parts", "_law_head", "_law_part", "_law_sign"], defScope d__law_is_number, fun _ => true⟩ b__law_is_number (defBody d__law_is_number) = true := by decide +kernel
theorem ck__law_bent : chkSs ⟨tb, ["_law_box_here", "_law_text", "_law_at", "_law_sign", "_law_way"], defScope d__law_bent, fun _ => true⟩ b__law_bent (defBody d__law_bent) = true := by decide +kernel
theorem ck__law_told : chkSs ⟨tb, ["_law_text"], defScope d__law_told, fun _ => true⟩ b__law_told (defBody d__law_told) = true := by decide +kernel
theorem ck_law : chkSs ⟨tb, ["_law_script", "_law_k", "_law_box_here", "_law_big", "_law_a", "_law_b", "_law_text", "_law_told_here", "_law_c", "_law_d", "_law_other", "_law_sign", "_law_turn", "_law_some", "_law_found", "_law_top", "_law_bottom"], defScope d_law, fun _ => true⟩ b_law (defBody d_law) = true := by decide +kernel
end L4

set_option Elab.async false
set_option linter.all false
set_option maxRecDepth 100000
set_option maxHeartbeats 4000000
/-! The law's own defs. -/
namespace L4
open PySem PySem.Spec PyProof.Rows L2 NumText TL
theorem rp : RatPg pg := ⟨by kernel_rfl, by kernel_rfl, by kernel_rfl, by kernel_rfl, by kernel_rfl, by kernel_rfl, by kernel_rfl, by kernel_rfl, by kernel_rfl, by kernel_rfl, by kernel_rfl, by kernel_rfl, by kernel_rfl, by kernel_rfl, by kernel_rfl, by kernel_rfl, by kernel_rfl, by kernel_rfl, by kernel_rfl⟩
theorem bp : BoxPg pg := ⟨by kernel_rfl, by kernel_rfl⟩
theorem f_word : pg.fn (.g "_law_word") = some fd__law_word := by kernel_rfl
theorem f_is_number : pg.fn (.g "_law_is_number") = some fd__law_is_number := by kernel_rfl
theorem f_bent : pg.fn (.g "_law_bent") = some fd__law_bent := by kernel_rfl
theorem f_told : pg.fn (.g "_law_told") = some fd__law_told := by kernel_rfl
theorem ex_bad : pg.exm "BadText" "BadText" = some true := by kernel_rfl
section
variable {n : Nat} {G : Cs}
/-- the text as the program, the law put it together -/
theorem text_app {r : Rat} (hd : r.den ≠ 1) : ofI r.num ++ "/" ++ ofI (r.den : Int) = textQ r := by
  refine ext_tl ?_
  rw [tl_text, if_neg hd, tl_append, tl_append, tl_ofI, tl_ofI, tl_slash]
  have : iL (r.den : Int) = numL r.den := by
    unfold iL
    rw [if_neg (by omega)]
    rfl
  rw [this]
  simp
theorem c_word (a b : Int) (hb : 0 < b) (hb2 : b.natAbs < 2 ^ 8000) (h : Tq (Rat.divInt a b)) : call pg true (n + 1) (.g "_law_word") [.d (.int a), .d (.int b)] G = some (.ok (.d (.str (textQ (Rat.divInt a b)))), G) := by
  rw [call_g f_word rfl]
  have h0 : b ≠ 0 := by omega
  obtain ⟨x, h1, h2, h3⟩ := wh_gcd (c := fun ρ => T.bind (eX true (hd pg true n) x0__law_word ρ) asB) (body := fun ρ G' => eSs true (hd pg true n) G.length s1__law_word ρ G') (G := G) (fun x y => [some (.d (.int a)), some (.d (.int b)), some (.d (.int x)), some (.d (.int y))]) (fun x y => 0 ≤ x ∧ 0 ≤ y)
    (fun x y hp => by
      have e : decide (0 < y) = !decide (y = 0) := by
        by_cases hy : y = 0
        · subst hy; rfl
        · rw [decide_eq_true (show 0 < y by omega), decide_eq_false hy]; rfl
      simp only [↓bind_ap, ↓ask_ap, ↓lift_ap, ↓sure_ap, pure_ap, stuck_ap, ↓cond_m, eX, eXs, eDs, eXo, eXt, eIt, eS, eSs, eHs, store, getV, fin, finD, asB, asI, Rv.frz, see, liftO, List.getElem?_cons_zero, List.getElem?_cons_succ, List.set_cons_zero, List.set_cons_succ, List.take_length, handed, start, List.map_cons, List.map_nil, List.length_cons, List.length_nil, List.replicate, List.cons_append, List.nil_append, List.append_nil, Nat.reduceAdd, Nat.reduceSub, hd_call, hd_cls, hd_exm, hd_has, x0__law_word, eCmp, cmpD, e])
    (fun x y hp hy => by
      refine ⟨?_, hp.2, Int.fmod_nonneg_of_pos x (by omega)⟩
      simp only [↓bind_ap, ↓ask_ap, ↓lift_ap, ↓sure_ap, pure_ap, stuck_ap, ↓cond_m, eX, eXs, eDs, eXo, eXt, eIt, eS, eSs, eHs, store, getV, fin, finD, asB, asI, Rv.frz, see, liftO, List.getElem?_cons_zero, List.getElem?_cons_succ, List.set_cons_zero, List.set_cons_succ, List.take_length, handed, start, List.map_cons, List.map_nil, List.length_cons, List.length_nil, List.replicate, List.cons_append, List.nil_append, List.append_nil, Nat.reduceAdd, Nat.reduceSub, hd_call, hd_cls, hd_exm, hd_has, s1__law_word, parK, setAll, eBin, binD, intBin, askO, decide_eq_true hy, Option.map])
    (b.natAbs + 1) (a.natAbs : Int) b ⟨by omega, by omega⟩ (by omega)
  have g1 : Int.gcd (a.natAbs : Int) b = Int.gcd a b := by simp [Int.gcd]
  have hx : x = rdiv a b := by
    unfold rdiv
    rw [if_neg (by omega), ← g1]
    omega
  have hr : decide (x.natAbs.log2 < 9000) = true := decide_eq_true (by rw [hx, rdiv_abs]; exact szQ_of hb2 h0)
  have hn : decide (x ≠ 0) = true := decide_eq_true (by rw [hx]; exact rdiv_ne h0)
  have e1 : a.fdiv x = (Rat.divInt a b).num := by rw [hx]; exact rdiv_num h0
  have e2 : b.fdiv x = ((Rat.divInt a b).den : Int) := by rw [hx]; exact rdiv_den h0
  have tl1 := text_len h
  have l1 : decide ((Rat.divInt a b).num.natAbs.log2 < 1920) = true := decide_eq_true h.n
  have l2 : decide ((((Rat.divInt a b).den : Int)).natAbs.log2 < 1920) = true := decide_eq_true h.d
  have k : x * ((Rat.divInt a b).den : Int) = b := by
    rw [← e2]
    have : (b.fdiv (rdiv a b)) * rdiv a b = b := by
      refine Int.fdiv_mul_cancel ?_
      have h1 : ((Int.gcd a b : Nat) : Int) ∣ b := Int.gcd_dvd_right a b
      unfold rdiv
      rw [if_neg (by omega)]
      exact h1
    rw [hx, Int.mul_comm]
    exact this
  have hx0 : x ≠ 0 := by rw [hx]; exact rdiv_ne h0
  by_cases hd : (Rat.divInt a b).den = 1
  · have q : decide (b = x) = true := decide_eq_true (by rw [← k, hd]; simp)
    have e3 : Str.ofString (toString (Rat.divInt a b).num) = textQ (Rat.divInt a b) := by unfold textQ; rw [if_pos hd]; rfl
    simp only [↓bind_ap, ↓ask_ap, ↓lift_ap, ↓sure_ap, pure_ap, stuck_ap, ↓cond_m, eX, eXs, eDs, eXo, eXt, eIt, eS, eSs, eHs, store, getV, fin, finD, asB, asI, Rv.frz, see, liftO, List.getElem?_cons_zero, List.getElem?_cons_succ, List.set_cons_zero, List.set_cons_succ, List.take_length, handed, start, List.map_cons, List.map_nil, List.length_cons, List.length_nil, List.replicate, List.cons_append, List.nil_append, List.append_nil, Nat.reduceAdd, Nat.reduceSub, hd_call, hd_cls, hd_exm, hd_has, runF, b__law_word_2, b__law_word_1, b__law_word, fd__law_word, parK, setAll, eBlt, List.mapM_cons, List.mapM_nil, Option.pure_def, Option.bind_eq_bind, Option.bind_some, bltD, abs_nat, h3, eCmp, cmpD, q, eBin, binD, intBin, askO, hn, hr, Bool.and_self, Option.map_some, bltS, e1, l1, e3]
  · have q : decide (b = x) = false := decide_eq_false fun z => hd (by
      rw [z] at k
      have k2 : x * ((Rat.divInt a b).den : Int) = x * 1 := by
        rw [Int.mul_one, ← z]
        rw [← z] at k
        exact k
      have := Int.eq_of_mul_eq_mul_left hx0 k2
      omega)
    have e3 := text_app hd
    rw [← e3, len_app, len_app] at tl1
    have l3 : decide ((Str.ofString (toString (Rat.divInt a b).num)).length + ("/" : Str).length ≤ line) = true := decide_eq_true (Nat.le_trans (Nat.le_trans (Nat.le_add_right _ _) tl1) (by decide))
    have l4 : decide ((Str.ofString (toString (Rat.divInt a b).num) ++ ("/" : Str)).length + (Str.ofString (toString ((Rat.divInt a b).den : Int))).length ≤ line) = true := decide_eq_true (by
      rw [len_app]
      exact Nat.le_trans tl1 (by decide))
    have e4 : Str.ofString (toString (Rat.divInt a b).num) ++ ("/" : Str) ++ Str.ofString (toString ((Rat.divInt a b).den : Int)) = textQ (Rat.divInt a b) := e3
    simp only [↓bind_ap, ↓ask_ap, ↓lift_ap, ↓sure_ap, pure_ap, stuck_ap, ↓cond_m, eX, eXs, eDs, eXo, eXt, eIt, eS, eSs, eHs, store, getV, fin, finD, asB, asI, Rv.frz, see, liftO, List.getElem?_cons_zero, List.getElem?_cons_succ, List.set_cons_zero, List.set_cons_succ, List.take_length, handed, start, List.map_cons, List.map_nil, List.length_cons, List.length_nil, List.replicate, List.cons_append, List.nil_append, List.append_nil, Nat.reduceAdd, Nat.reduceSub, hd_call, hd_cls, hd_exm, hd_has, runF, b__law_word_2, b__law_word_1, b__law_word, fd__law_word, parK, setAll, eBlt, List.mapM_cons, List.mapM_nil, Option.pure_def, Option.bind_eq_bind, Option.bind_some, bltD, abs_nat, h3, eCmp, cmpD, q, eBin, binD, intBin, askO, hn, hr, Bool.and_self, Option.map_some, bltS, e1, e2, l1, l2, l3, l4, e4]
theorem c_told_ok {r : Rat} (hl : PL (textQ r)) : call pg true (n + 6) (.g "_law_told") [.d (.str (textQ r))] G = some (.ok (.n (ratD r)), G) := by
  rw [call_g f_told rfl]
  have hk : kindT (hd pg true (n + 5)) "read" true (.d (.cl "Ratio")) G = some (.ok (.c "Ratio"), G) := by
    show cond (true && (pg.fn (.c "Ratio" "read")).isSome) (some (Except.ok (Kd.c "Ratio"), G)) none = _
    rw [rp.Ratio_read]
    rfl
  have hm : ∀ as, eMet (hd pg true (n + 5)) (.d (.cl "Ratio")) "read" (.c "Ratio") as G = call pg true (n + 5) (.c "Ratio" "read") as G := fun as => by
    show cond (decide (Kd.c "Ratio" = Kd.c "Ratio")) (call pg true (n + 5) (.c "Ratio" "read") as G) none = _
    rw [decide_eq_true rfl]
    rfl
  simp only [↓bind_ap, ↓ask_ap, ↓lift_ap, ↓sure_ap, pure_ap, stuck_ap, ↓cond_m, eX, eXs, eDs, eXo, eXt, eIt, eS, eSs, eHs, store, getV, fin, finD, asB, asI, Rv.frz, see, liftO, List.getElem?_cons_zero, List.getElem?_cons_succ, List.set_cons_zero, List.set_cons_succ, List.take_length, handed, start, List.map_cons, List.map_nil, List.length_cons, List.length_nil, List.replicate, List.cons_append, List.nil_append, List.append_nil, Nat.reduceAdd, Nat.reduceSub, hd_call, hd_cls, hd_exm, hd_has, runF, fd__law_told, b__law_told, newOf, Xs.ne, hk, hm, c_read_ok rp hl]
theorem c_told_bad {s : Str} (hl : PL s) (hs : ∀ r, textQ r ≠ s) : call pg true (n + 6) (.g "_law_told") [.d (.str s)] G = some (.ok (.d .non), G) := by
  rw [call_g f_told rfl]
  have hk : kindT (hd pg true (n + 5)) "read" true (.d (.cl "Ratio")) G = some (.ok (.c "Ratio"), G) := by
    show cond (true && (pg.fn (.c "Ratio" "read")).isSome) (some (Except.ok (Kd.c "Ratio"), G)) none = _
    rw [rp.Ratio_read]
    rfl
  have hm : ∀ as, eMet (hd pg true (n + 5)) (.d (.cl "Ratio")) "read" (.c "Ratio") as G = call pg true (n + 5) (.c "Ratio" "read") as G := fun as => by
    show cond (decide (Kd.c "Ratio" = Kd.c "Ratio")) (call pg true (n + 5) (.c "Ratio" "read") as G) none = _
    rw [decide_eq_true rfl]
    rfl
  simp only [↓bind_ap, ↓ask_ap, ↓lift_ap, ↓sure_ap, pure_ap, stuck_ap, ↓cond_m, eX, eXs, eDs, eXo, eXt, eIt, eS, eSs, eHs, store, getV, fin, finD, asB, asI, Rv.frz, see, liftO, List.getElem?_cons_zero, List.getElem?_cons_succ, List.set_cons_zero, List.set_cons_succ, List.take_length, handed, start, List.map_cons, List.map_nil, List.length_cons, List.length_nil, List.replicate, List.cons_append, List.nil_append, List.append_nil, Nat.reduceAdd, Nat.reduceSub, hd_call, hd_cls, hd_exm, hd_has, runF, fd__law_told, b__law_told, newOf, Xs.ne, hk, hm, c_read_bad rp hl hs, hd_exm, ex_bad, behind]
end
end L4

set_option Elab.async false
set_option linter.all false
set_option maxRecDepth 100000
set_option maxHeartbeats 4000000
/-! is_number, as the law has it. -/
namespace L4
open PySem PySem.Spec PyProof.Rows L2 NumText TL
theorem cut_to {α : Type} (l : List α) (k : Nat) : cutL l none (some (k : Int)) = l.take k := by
  unfold cutL
  rw [HT.sIx_none, List.drop_zero, Nat.sub_zero, HT.sIx_nat]
  by_cases h : k ≤ l.length
  · rw [Nat.min_eq_left h]
  · rw [Nat.min_eq_right (by omega), List.take_of_length_le (Nat.le_refl _), List.take_of_length_le (by omega)]
theorem cut_from {α : Type} (l : List α) (k : Nat) : cutL l (some (k : Int)) none = l.drop k := by
  unfold cutL
  rw [HT.sIx_none, HT.sIx_nat]
  by_cases h : k ≤ l.length
  · rw [Nat.min_eq_left h, List.take_of_length_le (by simp)]
  · rw [Nat.min_eq_right (by omega)]
    simp
    omega
theorem cut_to1 {α : Type} (l : List α) : cutL l none (some 1) = l.take 1 := cut_to l 1
theorem cut_from1 {α : Type} (l : List α) : cutL l (some 1) none = l.drop 1 := cut_from l 1
/-- a part that stands in a numeral -/
def okL (l : List Nat) : Bool := wholeB l && !(decide (1 < l.length) && (l.head? == some 48))
def okP : D → Bool
  | .str s => okL (tl s)
  | _ => false
section
variable {n : Nat} {G : Cs}
theorem at_head {s : Str} {c : Nat} {r : List Nat} (h : tl s = c :: r) : atI s.cps.toList 0 = some c := by
  rw [show s.cps.toList = c :: r from h]
  unfold atI ixN
  rw [if_pos (by decide), if_pos (by simp)]
  rfl
theorem sgs_filter (l : List Nat) : ((sgs l).filter fun d => !digD d).map (fun d => d) = sgs (l.filter fun c => !isDig c) := by
  unfold sgs
  rw [List.map_id', List.filter_map]
  rfl
theorem filter_empty (l : List Nat) : (l.filter fun c => !isDig c).isEmpty = l.all isDig := by
  rw [Bool.eq_iff_iff, List.isEmpty_iff, List.filter_eq_nil_iff, List.all_eq_true]
  simp
/-- the loop's body at one part -/
theorem body_part (w : Str) (ps : List D) (hd0 : Str) (p : Str) (ha : Asc p) (hl : p.length ≤ line) (bb : Nat) :
    eSs true (hd pg true n) bb s0__law_is_number [some (.d (.str w)), some (.d (.lst ps)), some (.d (.str hd0)), some (.d (.str p)), none] G =
      if okP (.str p) = true then some (.nx, [some (.d (.str w)), some (.d (.lst ps)), some (.d (.str hd0)), some (.d (.str p)), none], G) else some (.ret (.d (.bool false)), [some (.d (.str w)), some (.d (.lst ps)), some (.d (.str hd0)), some (.d (.str p)), none], G) := by
  have hlen := len_tl p
  by_cases h0 : p = ""
  · have h1 : okP (.str p) = false := by subst h0; rfl
    rw [h1, if_neg (by simp)]
    simp only [↓bind_ap, ↓ask_ap, ↓lift_ap, ↓sure_ap, pure_ap, stuck_ap, ↓cond_m, eX, eXs, eDs, eXo, eXt, eIt, eS, eSs, eHs, store, getV, fin, finD, asB, asI, Rv.frz, see, liftO, List.getElem?_cons_zero, List.getElem?_cons_succ, List.set_cons_zero, List.set_cons_succ, List.take_length, handed, start, List.map_cons, List.map_nil, List.length_cons, List.length_nil, List.replicate, List.cons_append, List.nil_append, List.append_nil, Nat.reduceAdd, Nat.reduceSub, hd_call, hd_cls, hd_exm, hd_has, s0__law_is_number, eCmp, cmpD, decide_eq_true h0]
  · have lc := lc_run (q := true) (h := hd pg true n) (ρ := [some (.d (.str w)), some (.d (.lst ps)), some (.d (.str hd0)), some (.d (.str p)), none]) (G := G) (e := .var 4) (vs := [4]) (tg := .name 4) (it := .val (.var 3)) (co := .yes x1__law_is_number) (xs := sgs (tl p)) (fun d => d) (fun d => !digD d)
      (by simp only [↓bind_ap, ↓ask_ap, ↓lift_ap, ↓sure_ap, pure_ap, stuck_ap, ↓cond_m, eX, eXs, eDs, eXo, eXt, eIt, eS, eSs, eHs, store, getV, fin, finD, asB, asI, Rv.frz, see, liftO, List.getElem?_cons_zero, List.getElem?_cons_succ, List.set_cons_zero, List.set_cons_succ, List.take_length, handed, start, List.map_cons, List.map_nil, List.length_cons, List.length_nil, List.replicate, List.cons_append, List.nil_append, List.append_nil, Nat.reduceAdd, Nat.reduceSub, hd_call, hd_cls, hd_exm, hd_has, walkL, items]; rfl) (by unfold sgs; rw [List.length_map, ← len_tl]; exact hl) (fun x hx => by
        obtain ⟨c, hc, rfl⟩ := List.mem_map.mp hx
        refine ⟨[some (.d (.str w)), some (.d (.lst ps)), some (.d (.str hd0)), some (.d (.str p)), some (.d (.str ⟨#[c]⟩))], rfl, fun G' => ⟨?_, fun _ => rfl⟩⟩
        simp only [↓bind_ap, ↓ask_ap, ↓lift_ap, ↓sure_ap, pure_ap, stuck_ap, ↓cond_m, eX, eXs, eDs, eXo, eXt, eIt, eS, eSs, eHs, store, getV, fin, finD, asB, asI, Rv.frz, see, liftO, List.getElem?_cons_zero, List.getElem?_cons_succ, List.set_cons_zero, List.set_cons_succ, List.take_length, handed, start, List.map_cons, List.map_nil, List.length_cons, List.length_nil, List.replicate, List.cons_append, List.nil_append, List.append_nil, Nat.reduceAdd, Nat.reduceSub, hd_call, hd_cls, hd_exm, hd_has, x1__law_is_number, eCmp, cmpD, digD]
        rw [show (!!(Builtin.Str.occurrences ("0123456789" : Str) ⟨#[c]⟩ 0 ("0123456789" : Str).length 1).isEmpty) = !isDig c by rw [← in_digits, ← PySem.StrLaws.found_one]])
    rw [sgs_filter] at lc
    have nn := ne_nil (l := (tl p).filter fun c => !isDig c) fun c hc => ha c (List.mem_filter.mp hc).1
    have d0 : decide (p = "") = false := decide_eq_false h0
    have h1 : tl p ≠ [] := fun e => h0 (ext_tl e)
    have l1 : decide (0 ≤ line) = true := by decide
    have l2 : decide (p.length ≤ line) = true := decide_eq_true hl
    have fe := filter_empty (tl p)
    have hw : wholeB (tl p) = (tl p).all isDig := by
      unfold wholeB
      rw [show (tl p).isEmpty = false by simpa using h1]
      rfl
    obtain ⟨c, r, hcr⟩ := List.exists_cons_of_ne_nil h1
    have hat := at_head hcr
    cases hall : (tl p).all isDig with
    | false =>
      have h1 : okP (.str p) = false := by show (wholeB (tl p) && _) = false; rw [hw, hall]; rfl
      rw [h1, if_neg (by simp)]
      rw [hall] at fe
      simp only [↓bind_ap, ↓ask_ap, ↓lift_ap, ↓sure_ap, pure_ap, stuck_ap, ↓cond_m, eX, eXs, eDs, eXo, eXt, eIt, eS, eSs, eHs, store, getV, fin, finD, asB, asI, Rv.frz, see, liftO, List.getElem?_cons_zero, List.getElem?_cons_succ, List.set_cons_zero, List.set_cons_succ, List.take_length, handed, start, List.map_cons, List.map_nil, List.length_cons, List.length_nil, List.replicate, List.cons_append, List.nil_append, List.append_nil, Nat.reduceAdd, Nat.reduceSub, hd_call, hd_cls, hd_exm, hd_has, s0__law_is_number, eCmp, cmpD, d0, ↓lc, l1, ↓nn, fe, Bool.not_false]
    | true =>
      rw [hall] at fe
      cases hlong : decide ((1 : Int) < (p.length : Int)) with
      | false =>
        have h1 : okP (.str p) = true := by
          show (wholeB (tl p) && !(decide (1 < (tl p).length) && _)) = true
          have : decide (1 < (tl p).length) = false := decide_eq_false (by have := of_decide_eq_false hlong; omega)
          rw [hw, hall, this]; rfl
        rw [h1, if_pos rfl]
        simp only [↓bind_ap, ↓ask_ap, ↓lift_ap, ↓sure_ap, pure_ap, stuck_ap, ↓cond_m, eX, eXs, eDs, eXo, eXt, eIt, eS, eSs, eHs, store, getV, fin, finD, asB, asI, Rv.frz, see, liftO, List.getElem?_cons_zero, List.getElem?_cons_succ, List.set_cons_zero, List.set_cons_succ, List.take_length, handed, start, List.map_cons, List.map_nil, List.length_cons, List.length_nil, List.replicate, List.cons_append, List.nil_append, List.append_nil, Nat.reduceAdd, Nat.reduceSub, hd_call, hd_cls, hd_exm, hd_has, s0__law_is_number, eCmp, cmpD, d0, ↓lc, l1, ↓nn, fe, Bool.not_true, eBlt, List.mapM_cons, List.mapM_nil, Option.pure_def, Option.bind_eq_bind, Option.bind_some, bltD, lenD, askO, l2, Option.map_some, hlong]
      | true =>
        have e2 : decide ((⟨#[c]⟩ : Str) = "0") = (c == 48) := by
          by_cases hc : c = 48
          · subst hc; rfl
          · rw [show (c == 48) = false from beq_eq_false_iff_ne.mpr hc]
            refine decide_eq_false fun z => hc ?_
            have z2 : tl (⟨#[c]⟩ : Str) = tl ("0" : Str) := by rw [z]
            have z3 : [c] = [48] := z2
            exact (List.cons.inj z3).1
        have h1 : okP (.str p) = !(c == 48) := by
          show (wholeB (tl p) && !(decide (1 < (tl p).length) && ((tl p).head? == some 48))) = _
          have : decide (1 < (tl p).length) = true := decide_eq_true (by have := of_decide_eq_true hlong; omega)
          rw [hw, hall, this, hcr]
          simp
        cases hc : (c == 48) with
        | true =>
          rw [h1, hc, if_neg (by simp)]
          rw [hc] at e2
          simp only [↓bind_ap, ↓ask_ap, ↓lift_ap, ↓sure_ap, pure_ap, stuck_ap, ↓cond_m, eX, eXs, eDs, eXo, eXt, eIt, eS, eSs, eHs, store, getV, fin, finD, asB, asI, Rv.frz, see, liftO, List.getElem?_cons_zero, List.getElem?_cons_succ, List.set_cons_zero, List.set_cons_succ, List.take_length, handed, start, List.map_cons, List.map_nil, List.length_cons, List.length_nil, List.replicate, List.cons_append, List.nil_append, List.append_nil, Nat.reduceAdd, Nat.reduceSub, hd_call, hd_cls, hd_exm, hd_has, s0__law_is_number, eCmp, cmpD, d0, ↓lc, l1, ↓nn, fe, Bool.not_true, eBlt, List.mapM_cons, List.mapM_nil, Option.pure_def, Option.bind_eq_bind, Option.bind_some, bltD, lenD, askO, l2, Option.map_some, hlong, ixD, hat, e2]
        | false =>
          rw [h1, hc, if_pos (by simp)]
          rw [hc] at e2
          simp only [↓bind_ap, ↓ask_ap, ↓lift_ap, ↓sure_ap, pure_ap, stuck_ap, ↓cond_m, eX, eXs, eDs, eXo, eXt, eIt, eS, eSs, eHs, store, getV, fin, finD, asB, asI, Rv.frz, see, liftO, List.getElem?_cons_zero, List.getElem?_cons_succ, List.set_cons_zero, List.set_cons_succ, List.take_length, handed, start, List.map_cons, List.map_nil, List.length_cons, List.length_nil, List.replicate, List.cons_append, List.nil_append, List.append_nil, Nat.reduceAdd, Nat.reduceSub, hd_call, hd_cls, hd_exm, hd_has, s0__law_is_number, eCmp, cmpD, d0, ↓lc, l1, ↓nn, fe, Bool.not_true, eBlt, List.mapM_cons, List.mapM_nil, Option.pure_def, Option.bind_eq_bind, Option.bind_some, bltD, lenD, askO, l2, Option.map_some, hlong, ixD, hat, e2]
end
end L4

set_option Elab.async false
set_option linter.all false
set_option maxRecDepth 100000
set_option maxHeartbeats 4000000
/-! is_number, as the law has it: what it answers. -/
namespace L4
open PySem PySem.Spec PyProof.Rows L2 NumText TL
def hd0 (p : Str) : Str := ⟨(unsign (tl p)).toArray⟩
theorem tl_hd0 (p : Str) : tl (hd0 p) = unsign (tl p) := rfl
theorem hd0_eq (p : Str) : (decide ((⟨(p.cps.toList.take 1).toArray⟩ : Str) = "-") = true ∧ (⟨(p.cps.toList.drop 1).toArray⟩ : Str) = hd0 p) ∨ (decide ((⟨(p.cps.toList.take 1).toArray⟩ : Str) = "-") = false ∧ p = hd0 p) := by
  have e45 : tl ("-" : Str) = [45] := by decide +kernel
  have key : (⟨(p.cps.toList.take 1).toArray⟩ : Str) = "-" ↔ (tl p).take 1 = [45] := by
    constructor
    · intro z
      have z2 : tl (⟨(p.cps.toList.take 1).toArray⟩ : Str) = tl ("-" : Str) := by rw [z]
      rw [e45] at z2
      exact z2
    · intro z
      refine ext_tl ?_
      rw [e45]
      exact z
  rcases unsign_cases (tl p) with ⟨r, e, e1, _⟩ | ⟨e1, _⟩
  · refine .inl ⟨decide_eq_true (key.mpr (by rw [e]; rfl)), ?_⟩
    unfold hd0
    rw [e1, show p.cps.toList = 45 :: r from e]
    rfl
  · by_cases h : (tl p).take 1 = [45]
    · refine .inl ⟨decide_eq_true (key.mpr h), ?_⟩
      cases hp : tl p with
      | nil => rw [hp] at h; cases h
      | cons c r =>
        rw [hp] at h
        have : c = 45 := (List.cons.inj h).1
        subst this
        unfold hd0
        rw [hp, show p.cps.toList = 45 :: r from hp]
        rfl
    · refine .inr ⟨decide_eq_false fun z => h (key.mp z), ?_⟩
      unfold hd0
      rw [e1]
theorem atI0 {α : Type} (a : α) (r : List α) : atI (a :: r) 0 = some a := by
  unfold atI ixN
  rw [if_pos (by decide), if_pos (by simp)]
  rfl
theorem atI1 {α : Type} (a b : α) (r : List α) : atI (a :: b :: r) 1 = some b := by
  unfold atI ixN
  rw [if_pos (by decide), if_pos (by simp; omega)]
  rfl
section
variable {n : Nat} {G : Cs} {w p0 : Str} {pr : List Str} {bb : Nat}
theorem isnum_1 (hw : w.length ≤ line) (hp0 : p0.length ≤ line) (hs : Txt.split w "/" = p0 :: pr) :
    eSs true (hd pg true n) bb b__law_is_number [some (.d (.str w)), none, none, none, none] G = eSs true (hd pg true n) bb b__law_is_number_2 [some (.d (.str w)), some (.d (.lst ((p0 :: pr).map D.str))), some (.d (.str (hd0 p0))), none, none] G := by
  have l1 : decide (p0.length ≤ line) = true := decide_eq_true hp0
  rcases hd0_eq p0 with ⟨h1, h2⟩ | ⟨h1, h2⟩
  · simp only [↓bind_ap, ↓ask_ap, ↓lift_ap, ↓sure_ap, pure_ap, stuck_ap, ↓cond_m, eX, eXs, eDs, eXo, eXt, eIt, eS, eSs, eHs, store, getV, fin, finD, asB, asI, Rv.frz, see, liftO, List.getElem?_cons_zero, List.getElem?_cons_succ, List.set_cons_zero, List.set_cons_succ, List.take_length, handed, start, List.map_cons, List.map_nil, List.length_cons, List.length_nil, List.replicate, List.cons_append, List.nil_append, List.append_nil, Nat.reduceAdd, Nat.reduceSub, hd_call, hd_cls, hd_exm, hd_has, b__law_is_number, b__law_is_number_1, newOf, kind_str bid_split, met_split hw slash_len, hs, ixD, atI0, Option.bind_some, slD, eCmp, cmpD, eBin, binD, intBin, askO, Bool.and_self, Option.map_some, l1, cut_to1, cut_from1, h1, h2]
  · simp only [↓bind_ap, ↓ask_ap, ↓lift_ap, ↓sure_ap, pure_ap, stuck_ap, ↓cond_m, eX, eXs, eDs, eXo, eXt, eIt, eS, eSs, eHs, store, getV, fin, finD, asB, asI, Rv.frz, see, liftO, List.getElem?_cons_zero, List.getElem?_cons_succ, List.set_cons_zero, List.set_cons_succ, List.take_length, handed, start, List.map_cons, List.map_nil, List.length_cons, List.length_nil, List.replicate, List.cons_append, List.nil_append, List.append_nil, Nat.reduceAdd, Nat.reduceSub, hd_call, hd_cls, hd_exm, hd_has, b__law_is_number, b__law_is_number_1, newOf, kind_str bid_split, met_split hw slash_len, hs, ixD, atI0, Option.bind_some, slD, eCmp, cmpD, eBin, binD, intBin, askO, Bool.and_self, Option.map_some, l1, cut_to1, cut_from1, h1, ← h2]
theorem isnum_2 (hl : ∀ p ∈ hd0 p0 :: pr, Asc p ∧ p.length ≤ line) (hn : pr.length + 1 ≤ line) :
    ∃ o, eSs true (hd pg true n) bb b__law_is_number_2 [some (.d (.str w)), some (.d (.lst ((p0 :: pr).map D.str))), some (.d (.str (hd0 p0))), none, none] G =
      if ((hd0 p0 :: pr).map D.str).all okP = true then eSs true (hd pg true n) bb b__law_is_number_3 [some (.d (.str w)), some (.d (.lst ((p0 :: pr).map D.str))), some (.d (.str (hd0 p0))), o, none] G
      else some (.ret (.d (.bool false)), [some (.d (.str w)), some (.d (.lst ((p0 :: pr).map D.str))), some (.d (.str (hd0 p0))), o, none], G) := by
  obtain ⟨ρ', ⟨o, rfl⟩, hf⟩ := for_find (body := fun ρ G => eSs true (hd pg true n) (lkb bb []) s0__law_is_number ρ G) (tg := .name 3) (G := G) (fun ρ => ∃ o, ρ = [some (.d (.str w)), some (.d (.lst ((p0 :: pr).map D.str))), some (.d (.str (hd0 p0))), o, none])
    (fun x => [some (.d (.str w)), some (.d (.lst ((p0 :: pr).map D.str))), some (.d (.str (hd0 p0))), some (.d x), none]) okP (.d (.bool false)) ((hd0 p0 :: pr).map D.str) [some (.d (.str w)), some (.d (.lst ((p0 :: pr).map D.str))), some (.d (.str (hd0 p0))), none, none]
    ⟨none, rfl⟩ (fun x _ => ⟨⟨_, rfl⟩, fun ρ ⟨o, e⟩ => by subst e; rfl⟩) (fun x hx => by
      obtain ⟨p, hp, rfl⟩ := List.mem_map.mp hx
      obtain ⟨h1, h2⟩ := hl p hp
      exact body_part w _ _ p h1 h2 _)
  refine ⟨o, ?_⟩
  have l1 : decide (1 ≤ line) = true := by decide
  have l2 : decide (1 + ((pr.map D.str).length) ≤ line) = true := decide_eq_true (by rw [List.length_map]; omega)
  have e0 : (.d (.str (hd0 p0)) :: []) = [Rv.d (D.str (hd0 p0))] := rfl
  rw [List.map_cons] at hf
  rw [List.map_cons, List.map_cons]
  rw [List.map_cons] at hf
  generalize hok : ((D.str (hd0 p0) :: pr.map D.str).all okP) = b at hf
  cases b with
  | true =>
    rw [if_pos rfl] at hf
    simp only [↓bind_ap, ↓ask_ap, ↓lift_ap, ↓sure_ap, pure_ap, stuck_ap, ↓cond_m, eX, eXs, eDs, eXo, eXt, eIt, eS, eSs, eHs, store, getV, fin, finD, asB, asI, Rv.frz, see, liftO, List.getElem?_cons_zero, List.getElem?_cons_succ, List.set_cons_zero, List.set_cons_succ, List.take_length, handed, start, List.map_cons, List.map_nil, List.length_cons, List.length_nil, List.replicate, List.cons_append, List.nil_append, List.append_nil, Nat.reduceAdd, Nat.reduceSub, hd_call, hd_cls, hd_exm, hd_has, b__law_is_number_2, Nat.zero_add, l1, slD, Option.bind_some, cut_from1, List.drop_succ_cons, List.drop_zero, eBin, binD, askO, l2, walkL, items, ↓hf, if_true]
  | false =>
    rw [if_neg (by simp)] at hf
    simp only [↓bind_ap, ↓ask_ap, ↓lift_ap, ↓sure_ap, pure_ap, stuck_ap, ↓cond_m, eX, eXs, eDs, eXo, eXt, eIt, eS, eSs, eHs, store, getV, fin, finD, asB, asI, Rv.frz, see, liftO, List.getElem?_cons_zero, List.getElem?_cons_succ, List.set_cons_zero, List.set_cons_succ, List.take_length, handed, start, List.map_cons, List.map_nil, List.length_cons, List.length_nil, List.replicate, List.cons_append, List.nil_append, List.append_nil, Nat.reduceAdd, Nat.reduceSub, hd_call, hd_cls, hd_exm, hd_has, b__law_is_number_2, Nat.zero_add, l1, slD, Option.bind_some, cut_from1, List.drop_succ_cons, List.drop_zero, eBin, binD, askO, l2, walkL, items, ↓hf, Bool.false_eq_true, if_false]
theorem isnum_3a {o : Option Rv} : eSs true (hd pg true n) bb b__law_is_number_3 [some (.d (.str w)), some (.d (.lst (([p0]).map D.str))), some (.d (.str (hd0 p0))), o, none] G =
    some (.ret (.d (.bool (!decide (w = "-0")))), [some (.d (.str w)), some (.d (.lst (([p0]).map D.str))), some (.d (.str (hd0 p0))), o, none], G) := by
  have d1 : decide ((((0 + 1 : Nat)) : Int) = 1) = true := rfl
  simp only [↓bind_ap, ↓ask_ap, ↓lift_ap, ↓sure_ap, pure_ap, stuck_ap, ↓cond_m, eX, eXs, eDs, eXo, eXt, eIt, eS, eSs, eHs, store, getV, fin, finD, asB, asI, Rv.frz, see, liftO, List.getElem?_cons_zero, List.getElem?_cons_succ, List.set_cons_zero, List.set_cons_succ, List.take_length, handed, start, List.map_cons, List.map_nil, List.length_cons, List.length_nil, List.replicate, List.cons_append, List.nil_append, List.append_nil, Nat.reduceAdd, Nat.reduceSub, hd_call, hd_cls, hd_exm, hd_has, b__law_is_number_3, eBlt, List.mapM_cons, List.mapM_nil, Option.pure_def, Option.bind_eq_bind, Option.bind_some, Option.map_some, bltD, lenD, eCmp, cmpD, eBin, binD, intBin, askO, Bool.and_self, Option.map_some, d1]
theorem isnum_3c {o : Option Rv} (h : 2 ≤ pr.length) : eSs true (hd pg true n) bb b__law_is_number_3 [some (.d (.str w)), some (.d (.lst ((p0 :: pr).map D.str))), some (.d (.str (hd0 p0))), o, none] G =
    some (.ret (.d (.bool false)), [some (.d (.str w)), some (.d (.lst ((p0 :: pr).map D.str))), some (.d (.str (hd0 p0))), o, none], G) := by
  have d1 : decide ((((pr.map D.str).length + 1 : Nat) : Int) = 1) = false := decide_eq_false (by rw [List.length_map]; omega)
  have d2 : decide ((((pr.map D.str).length + 1 : Nat) : Int) = 2) = false := decide_eq_false (by rw [List.length_map]; omega)
  simp only [↓bind_ap, ↓ask_ap, ↓lift_ap, ↓sure_ap, pure_ap, stuck_ap, ↓cond_m, eX, eXs, eDs, eXo, eXt, eIt, eS, eSs, eHs, store, getV, fin, finD, asB, asI, Rv.frz, see, liftO, List.getElem?_cons_zero, List.getElem?_cons_succ, List.set_cons_zero, List.set_cons_succ, List.take_length, handed, start, List.map_cons, List.map_nil, List.length_cons, List.length_nil, List.replicate, List.cons_append, List.nil_append, List.append_nil, Nat.reduceAdd, Nat.reduceSub, hd_call, hd_cls, hd_exm, hd_has, b__law_is_number_3, b__law_is_number_4, eBlt, List.mapM_cons, List.mapM_nil, Option.pure_def, Option.bind_eq_bind, Option.bind_some, Option.map_some, bltD, lenD, eCmp, cmpD, eBin, binD, intBin, askO, Bool.and_self, Option.map_some, d1, d2]
theorem isnum_3b {o : Option Rv} {p1 : Str} (h0 : wholeB (unsign (tl p0)) = true) (h1 : wholeB (tl p1) = true) (l0 : p0.length ≤ 570) (l1 : p1.length ≤ 570) :
    eSs true (hd pg true (n + 1)) bb b__law_is_number_3 [some (.d (.str w)), some (.d (.lst ((p0 :: [p1]).map D.str))), some (.d (.str (hd0 p0))), o, none] G =
    some (.ret (.d (.bool (decide (1 < ((digitsVal (tl p1) : Nat) : Int)) && decide (textQ (Rat.divInt (iv (tl p0)) ((digitsVal (tl p1) : Nat) : Int)) = w)))), [some (.d (.str w)), some (.d (.lst ((p0 :: [p1]).map D.str))), some (.d (.str (hd0 p0))), o, none], G) := by
  have d1 : decide ((((0 + 1 + 1 : Nat)) : Int) = 1) = false := rfl
  have d2 : decide ((((0 + 1 + 1 : Nat)) : Int) = 2) = true := rfl
  have l5 : decide (p0.length ≤ 640) = true := decide_eq_true (by omega)
  have l6 : decide (p1.length ≤ 640) = true := decide_eq_true (by omega)
  have i0 := int_val h0 (by omega)
  have i1 : intText? p1 = some ((digitsVal (tl p1) : Nat) : Int) := intText_digits (whole_iff.mp h1).2 (whole_iff.mp h1).1 (by omega)
  have b0 := iv_lt h0 (by rw [← len_tl]; exact l0)
  have hu : ((digitsVal (tl p1) : Nat) : Int).natAbs < 2 ^ 1900 := Nat.lt_trans (val_lt (whole_iff.mp h1).2 (by rw [← len_tl]; exact l1)) ten_570
  cases hc : decide (1 < ((digitsVal (tl p1) : Nat) : Int)) with
  | false =>
    simp only [↓bind_ap, ↓ask_ap, ↓lift_ap, ↓sure_ap, pure_ap, stuck_ap, ↓cond_m, eX, eXs, eDs, eXo, eXt, eIt, eS, eSs, eHs, store, getV, fin, finD, asB, asI, Rv.frz, see, liftO, List.getElem?_cons_zero, List.getElem?_cons_succ, List.set_cons_zero, List.set_cons_succ, List.take_length, handed, start, List.map_cons, List.map_nil, List.length_cons, List.length_nil, List.replicate, List.cons_append, List.nil_append, List.append_nil, Nat.reduceAdd, Nat.reduceSub, hd_call, hd_cls, hd_exm, hd_has, b__law_is_number_3, b__law_is_number_4, eBlt, List.mapM_cons, List.mapM_nil, Option.pure_def, Option.bind_eq_bind, Option.bind_some, Option.map_some, bltD, lenD, eCmp, cmpD, eBin, binD, intBin, askO, Bool.and_self, Option.map_some, d1, d2, ixD, atI0, atI1, bltI, l6, i1, hc, Bool.false_and]
  | true =>
    have hc' := of_decide_eq_true hc
    have cw := c_word (n := n) (G := G) (iv (tl p0)) ((digitsVal (tl p1) : Nat) : Int) (by omega) (Nat.lt_trans hu (Nat.pow_lt_pow_right (by omega) (by omega))) (tq_of (by omega) b0 hu)
    simp only [↓bind_ap, ↓ask_ap, ↓lift_ap, ↓sure_ap, pure_ap, stuck_ap, ↓cond_m, eX, eXs, eDs, eXo, eXt, eIt, eS, eSs, eHs, store, getV, fin, finD, asB, asI, Rv.frz, see, liftO, List.getElem?_cons_zero, List.getElem?_cons_succ, List.set_cons_zero, List.set_cons_succ, List.take_length, handed, start, List.map_cons, List.map_nil, List.length_cons, List.length_nil, List.replicate, List.cons_append, List.nil_append, List.append_nil, Nat.reduceAdd, Nat.reduceSub, hd_call, hd_cls, hd_exm, hd_has, b__law_is_number_3, b__law_is_number_4, eBlt, List.mapM_cons, List.mapM_nil, Option.pure_def, Option.bind_eq_bind, Option.bind_some, Option.map_some, bltD, lenD, eCmp, cmpD, eBin, binD, intBin, askO, Bool.and_self, Option.map_some, d1, d2, ixD, atI0, atI1, bltI, l5, l6, i0, i1, hc, Bool.true_and, cw]
end
end L4

set_option Elab.async false
set_option linter.all false
set_option maxRecDepth 100000
set_option maxHeartbeats 4000000
/-! is_number tells the quotients' texts. -/
namespace L4
open PySem PySem.Spec PyProof.Rows L2 NumText TL
theorem slash_small : ("/" : Str).cps.all (· < 256) = true := by decide +kernel
theorem split_free {w : Str} (h : 47 ∉ tl w) : Txt.split w "/" = [w] := by
  refine map_tl_inj ?_
  rw [split_spl w "/" (by rw [tl_slash]; simp) (kind_ok slash_small), tl_slash, spl_last1 h]
  rfl
theorem split_app {a b : Str} (h : 47 ∉ tl a) : Txt.split (a ++ "/" ++ b) "/" = a :: Txt.split b "/" := by
  refine map_tl_inj ?_
  rw [List.map_cons, split_spl _ "/" (by rw [tl_slash]; simp) (kind_ok slash_small), split_spl b "/" (by rw [tl_slash]; simp) (kind_ok slash_small), tl_append, tl_append, tl_slash, List.append_assoc]
  exact spl_part1 h
theorem split_parts : ∀ (k : Nat) (w : Str), w.length ≤ k → (Txt.split w "/").length ≤ w.length + 1 ∧ Txt.split w "/" ≠ [] ∧ (47 ∈ tl w → 2 ≤ (Txt.split w "/").length) ∧ ∀ p ∈ Txt.split w "/", p.length ≤ w.length ∧ ∀ c ∈ tl p, c ∈ tl w := by
  intro k
  induction k with
  | zero =>
    intro w hk
    have h : 47 ∉ tl w := by
      have := len_tl w
      rw [show tl w = [] from List.eq_nil_of_length_eq_zero (by omega)]
      simp
    rw [split_free h]
    exact ⟨by simp, by simp, fun z => absurd z h, fun p hp => by rw [List.mem_singleton.mp hp]; exact ⟨Nat.le_refl _, fun _ h => h⟩⟩
  | succ k ih =>
    intro w hk
    rcases parts w with ⟨h, _⟩ | ⟨a, b, e, h, _⟩
    · rw [split_free h]
      exact ⟨by simp, by simp, fun z => absurd z h, fun p hp => by rw [List.mem_singleton.mp hp]; exact ⟨Nat.le_refl _, fun _ h => h⟩⟩
    · have hl : w.length = a.length + 1 + b.length := by rw [e, len_app, len_app]; rfl
      obtain ⟨h1, h2, _, h4⟩ := ih b (by omega)
      have e2 : Txt.split w "/" = a :: Txt.split b "/" := by rw [e]; exact split_app h
      have et : tl w = tl a ++ 47 :: tl b := by rw [e, tl_append, tl_append, tl_slash]; simp
      rw [e2]
      refine ⟨by rw [List.length_cons]; omega, by simp, fun _ => ?_, fun p hp => ?_⟩
      · have := List.length_pos_iff.mpr h2
        rw [List.length_cons]
        omega
      · rcases List.mem_cons.mp hp with rfl | hp
        · exact ⟨by omega, fun c hc => by rw [et]; exact List.mem_append_left _ hc⟩
        · obtain ⟨h5, h6⟩ := h4 p hp
          exact ⟨by omega, fun c hc => by rw [et]; exact List.mem_append_right _ (List.mem_cons_of_mem _ (h6 c hc))⟩
theorem okL_num (n : Nat) : okL (numL n) = true := by
  unfold okL
  rw [whole_num]
  obtain ⟨c, r, h1, h2⟩ := numL_head n
  rw [h1]
  by_cases hc : c = 48
  · obtain ⟨_, hr⟩ := h2 hc
    subst hr
    rfl
  · simp [hc]
theorem okL_val {l : List Nat} (h : okL l = true) : wholeB l = true ∧ numL (digitsVal l) = l := by
  obtain ⟨h1, h2⟩ := Bool.and_eq_true_iff.mp h
  refine ⟨h1, ?_⟩
  obtain ⟨h3, h4⟩ := whole_iff.mp h1
  obtain ⟨c, r, rfl⟩ := List.exists_cons_of_ne_nil h3
  have key := toDigits_digitsVal r.length (c :: r) rfl h4 (by
    by_cases hr : r.length = 0
    · exact .inl hr
    · refine .inr ⟨c, r, rfl, ?_⟩
      have hc := h4.head
      have : c ≠ 48 := fun z => by
        subst z
        have : decide (1 < (48 :: r).length) = true := decide_eq_true (by simp; omega)
        rw [this] at h2
        simp at h2
      omega)
  unfold numL
  rw [key, List.map_map]
  have : ∀ l : List Nat, AllDigits l → l.map (Char.toNat ∘ Char.ofNat) = l := by
    intro l
    induction l with
    | nil => intro _; rfl
    | cons a l ih =>
      intro h
      rw [List.map_cons, ih h.tail]
      have ha := h.head
      congr 1
      show (Char.ofNat a).toNat = a
      have hv : Nat.isValidChar a := .inl (by omega)
      unfold Char.ofNat
      rw [dif_pos hv]
      rfl
  exact this _ h4
theorem text_int (i : Int) : tl (textQ (i : Rat)) = iL i := by
  rw [tl_text, Rat.den_intCast, if_pos rfl, Rat.num_intCast]
section
variable {n : Nat} {G : Cs} {w : Str}
theorem isnum_go {o : Bool} (hw : w.length ≤ line) {p0 : Str} {pr : List Str} (hp0 : p0.length ≤ line) (hs : Txt.split w "/" = p0 :: pr) (hl : ∀ p ∈ hd0 p0 :: pr, Asc p ∧ p.length ≤ line) (hn : pr.length + 1 ≤ line)
    (h3 : ((hd0 p0 :: pr).map D.str).all okP = true → ∀ o' : Option Rv, eSs true (hd pg true (n + 1)) G.length b__law_is_number_3 [some (.d (.str w)), some (.d (.lst ((p0 :: pr).map D.str))), some (.d (.str (hd0 p0))), o', none] G =
      some (.ret (.d (.bool o)), [some (.d (.str w)), some (.d (.lst ((p0 :: pr).map D.str))), some (.d (.str (hd0 p0))), o', none], G))
    (h4 : ((hd0 p0 :: pr).map D.str).all okP = false → o = false) : call pg true (n + 2) (.g "_law_is_number") [.d (.str w)] G = some (.ok (.d (.bool o)), G) := by
  rw [call_g f_is_number rfl]
  have k1 := isnum_1 (n := n + 1) (G := G) (bb := G.length) hw hp0 hs
  obtain ⟨o', k2⟩ := isnum_2 (n := n + 1) (G := G) (w := w) (bb := G.length) hl hn
  rw [k2] at k1
  cases hb : ((hd0 p0 :: pr).map D.str).all okP with
  | true =>
    rw [hb, if_pos rfl, h3 hb o'] at k1
    simp only [↓bind_ap, ↓ask_ap, ↓lift_ap, ↓sure_ap, pure_ap, stuck_ap, ↓cond_m, eX, eXs, eDs, eXo, eXt, eIt, eS, eSs, eHs, store, getV, fin, finD, asB, asI, Rv.frz, see, liftO, List.getElem?_cons_zero, List.getElem?_cons_succ, List.set_cons_zero, List.set_cons_succ, List.take_length, handed, start, List.map_cons, List.map_nil, List.length_cons, List.length_nil, List.replicate, List.cons_append, List.nil_append, List.append_nil, Nat.reduceAdd, Nat.reduceSub, hd_call, hd_cls, hd_exm, hd_has, runF, fd__law_is_number, ↓k1]
  | false =>
    rw [hb, if_neg (by simp)] at k1
    rw [h4 hb]
    simp only [↓bind_ap, ↓ask_ap, ↓lift_ap, ↓sure_ap, pure_ap, stuck_ap, ↓cond_m, eX, eXs, eDs, eXo, eXt, eIt, eS, eSs, eHs, store, getV, fin, finD, asB, asI, Rv.frz, see, liftO, List.getElem?_cons_zero, List.getElem?_cons_succ, List.set_cons_zero, List.set_cons_succ, List.take_length, handed, start, List.map_cons, List.map_nil, List.length_cons, List.length_nil, List.replicate, List.cons_append, List.nil_append, List.append_nil, Nat.reduceAdd, Nat.reduceSub, hd_call, hd_cls, hd_exm, hd_has, runF, fd__law_is_number, ↓k1]
theorem asc_hd {p : Str} (h : Asc p) : Asc (hd0 p) := fun c hc => by
  have hc : c ∈ unsign (tl p) := hc
  rcases unsign_cases (tl p) with ⟨r, e, e1, _⟩ | ⟨e1, _⟩
  · rw [e1] at hc
    exact h c (by rw [e]; exact List.mem_cons_of_mem _ hc)
  · rw [e1] at hc
    exact h c hc
theorem len_hd (p : Str) : (hd0 p).length ≤ p.length := by
  rw [len_tl, len_tl p, tl_hd0]
  rcases unsign_cases (tl p) with ⟨r, e, e1, _⟩ | ⟨e1, _⟩
  · rw [e1, e, List.length_cons]; omega
  · rw [e1]; exact Nat.le_refl _
theorem line_570 {k : Nat} (h : k ≤ 570) : k ≤ line := Nat.le_trans h (by decide)
theorem parts_ok (ha : Asc w) (hw : w.length ≤ 570) {p0 : Str} {pr : List Str} (hs : Txt.split w "/" = p0 :: pr) : p0.length ≤ 570 ∧ (∀ p ∈ hd0 p0 :: pr, Asc p ∧ p.length ≤ line) ∧ pr.length + 1 ≤ line ∧ (∀ p ∈ pr, p.length ≤ 570) := by
  obtain ⟨h1, _, _, h4⟩ := split_parts w.length w (Nat.le_refl _)
  rw [hs] at h1 h4
  have k : ∀ p ∈ p0 :: pr, Asc p ∧ p.length ≤ 570 := fun p hp => ⟨fun c hc => ha c ((h4 p hp).2 c hc), Nat.le_trans (h4 p hp).1 hw⟩
  have k0 := k p0 List.mem_cons_self
  refine ⟨k0.2, fun p hp => ?_, ?_, fun p hp => (k p (List.mem_cons_of_mem _ hp)).2⟩
  · rcases List.mem_cons.mp hp with rfl | hp
    · exact ⟨asc_hd k0.1, line_570 (Nat.le_trans (len_hd _) k0.2)⟩
    · have := k p (List.mem_cons_of_mem _ hp)
      exact ⟨this.1, line_570 this.2⟩
  · rw [List.length_cons] at h1
    exact Nat.le_trans (show pr.length + 1 ≤ 571 by omega) (by decide)
/-- what is no quotient's text is none for the law -/
theorem c_isnum_bad (ha : Asc w) (hw : w.length ≤ 570) (hs : ∀ r, textQ r ≠ w) : call pg true (n + 2) (.g "_law_is_number") [.d (.str w)] G = some (.ok (.d (.bool false)), G) := by
  rcases parts w with ⟨h, _⟩ | ⟨a, b, e, h, _⟩
  · have es := split_free h
    obtain ⟨l0, l1, l2, _⟩ := parts_ok ha hw es
    refine isnum_go (line_570 hw) (line_570 l0) es l1 l2 (fun hk o' => ?_) (fun _ => rfl)
    rw [isnum_3a]
    have hk2 : okL (unsign (tl w)) = true := by
      have := List.all_eq_true.mp hk (.str (hd0 w)) (by simp)
      exact this
    obtain ⟨h1, h2⟩ := okL_val hk2
    have hz : w = "-0" := by
      rcases unsign_cases (tl w) with ⟨r, e, e1, _⟩ | ⟨e1, _⟩
      · rw [e1] at h2
        by_cases h0 : digitsVal r = 0
        · refine ext_tl ?_
          rw [h0] at h2
          rw [e, ← h2]
          decide +kernel
        · refine absurd ?_ (hs ((-(digitsVal r : Int) : Int) : Rat))
          refine ext_tl ?_
          rw [text_int, e]
          unfold iL
          rw [if_pos (by omega), Int.natAbs_neg, Int.natAbs_natCast, h2]
      · rw [e1] at h2
        refine absurd ?_ (hs ((digitsVal (tl w) : Int) : Rat))
        refine ext_tl ?_
        rw [text_int]
        unfold iL
        rw [if_neg (by omega), Int.natAbs_natCast, h2]
    rw [decide_eq_true hz]
    rfl
  · have es : Txt.split w "/" = a :: Txt.split b "/" := by rw [e]; exact split_app h
    obtain ⟨l0, l1, l2, l3⟩ := parts_ok ha hw es
    by_cases hb : 47 ∈ tl b
    · refine isnum_go (line_570 hw) (line_570 l0) es l1 l2 (fun hk o' => ?_) (fun _ => rfl)
      exact isnum_3c ((split_parts b.length b (Nat.le_refl _)).2.2.1 hb)
    · have eb := split_free hb
      rw [eb] at es l1 l2 l3
      refine isnum_go (line_570 hw) (line_570 l0) es l1 l2 (fun hk o' => ?_) (fun _ => rfl)
      have hk2 : okL (unsign (tl a)) = true := List.all_eq_true.mp hk (.str (hd0 a)) (by simp)
      have hk3 : okL (tl b) = true := List.all_eq_true.mp hk (.str b) (by simp)
      rw [isnum_3b (okL_val hk2).1 (okL_val hk3).1 l0 (l3 b (by simp)), decide_eq_false (hs _), Bool.and_false]
theorem iL_asc (i : Int) : ∀ c ∈ iL i, c < 128 := by
  intro c hc
  unfold iL at hc
  have hd := numL_digits i.natAbs
  split at hc
  · rcases List.mem_cons.mp hc with rfl | hc
    · omega
    · have := hd c hc; omega
  · have := hd c hc; omega
theorem text_asc (r : Rat) : Asc (textQ r) := by
  intro c hc
  rw [tl_text] at hc
  split at hc
  · exact iL_asc _ c hc
  · rcases List.mem_append.mp hc with hc | hc
    · exact iL_asc _ c hc
    · rcases List.mem_cons.mp hc with rfl | hc
      · omega
      · have := numL_digits r.den c hc; omega
/-- a quotient's text is one for the law -/
theorem c_isnum_ok {r : Rat} (hw : (textQ r).length ≤ 570) : call pg true (n + 2) (.g "_law_is_number") [.d (.str (textQ r))] G = some (.ok (.d (.bool true)), G) := by
  have ha := text_asc r
  by_cases hd : r.den = 1
  · have e : tl (textQ r) = iL r.num := by rw [tl_text, if_pos hd]
    have es := split_free (w := textQ r) (by rw [e]; exact iL_free _)
    obtain ⟨l0, l1, l2, _⟩ := parts_ok ha hw es
    have ek : okP (.str (hd0 (textQ r))) = true := by
      show okL (unsign (tl (textQ r))) = true
      rw [e, (unsign_iL _).1]
      exact okL_num _
    refine isnum_go (line_570 hw) (line_570 l0) es l1 l2 (fun hk o' => ?_) (fun hk => ?_)
    · rw [isnum_3a]
      have hz : ¬ textQ r = "-0" := fun z => by
        have z2 : tl (textQ r) = [45, 48] := by rw [z]; decide +kernel
        rw [e] at z2
        unfold iL at z2
        split at z2
        · have z3 := (List.cons.inj z2).2
          have z4 := numL_val r.num.natAbs
          rw [z3] at z4
          have : digitsVal [48] = 0 := rfl
          omega
        · have : 45 ∈ numL r.num.natAbs := by rw [z2]; simp
          exact numL_free (by omega) this
      rw [decide_eq_false hz]
      rfl
    · rw [List.map_cons, List.all_cons, ek] at hk
      cases hk
  · have e := text_app hd
    have es : Txt.split (textQ r) "/" = [ofI r.num, ofI (r.den : Int)] := by
      rw [← e, split_app (by rw [tl_ofI]; exact iL_free _), split_free (by rw [tl_ofI]; exact iL_free _)]
    obtain ⟨l0, l1, l2, l3⟩ := parts_ok ha hw es
    have eb : tl (ofI (r.den : Int)) = numL r.den := by
      rw [tl_ofI]
      unfold iL
      rw [if_neg (by omega)]
      rfl
    have ek : okP (.str (hd0 (ofI r.num))) = true := by
      show okL (unsign (tl (ofI r.num))) = true
      rw [tl_ofI, (unsign_iL _).1]
      exact okL_num _
    have ek2 : okP (.str (ofI (r.den : Int))) = true := by
      show okL (tl (ofI (r.den : Int))) = true
      rw [eb]
      exact okL_num _
    refine isnum_go (line_570 hw) (line_570 l0) es l1 l2 (fun hk o' => ?_) (fun hk => ?_)
    · rw [isnum_3b (by rw [tl_ofI, (unsign_iL _).1]; exact whole_num _) (by rw [eb]; exact whole_num _) l0 (l3 _ (by simp))]
      have e3 : textQ (Rat.divInt (iv (tl (ofI r.num))) ((digitsVal (tl (ofI (r.den : Int))) : Nat) : Int)) = textQ r := by
        rw [tl_ofI, (unsign_iL _).2, eb, numL_val]
        exact congrArg textQ (Rat.num_divInt_den r)
      have e4 : (1 : Int) < ((digitsVal (tl (ofI (r.den : Int))) : Nat) : Int) := by
        rw [eb, numL_val]
        have := r.den_pos
        omega
      rw [decide_eq_true e3, decide_eq_true e4]
      rfl
    · rw [List.map_cons, List.map_cons, List.all_cons, List.all_cons, ek, ek2] at hk
      cases hk
end
end L4

set_option Elab.async false
set_option linter.all false
set_option maxRecDepth 100000
set_option maxHeartbeats 4000000
/-! Bent texts; one turn. -/
namespace L4
open PySem PySem.Spec PyProof.Rows L2 NumText TL
theorem atI_mem {α : Type} {xs : List α} {i : Int} (h0 : 0 ≤ i) (h : i < xs.length) : ∃ x ∈ xs, atI xs i = some x := by
  obtain ⟨k, rfl⟩ := Int.eq_ofNat_of_zero_le h0
  exact ⟨xs[k]'(by omega), List.getElem_mem _, atI_lt (by omega)⟩
def signs : Str := "0123456789-+/. _ax\n"
theorem signs_len : (tl signs).length = 19 := by decide +kernel
theorem signs_asc : ∀ c ∈ tl signs, c < 128 := by decide +kernel
theorem mk_len (l : List Nat) : (⟨l.toArray⟩ : Str).length = l.length := by rw [len_tl]
theorem asc_app {a b : Str} (ha : Asc a) (hb : Asc b) : Asc (a ++ b) := fun c hc => by
  rw [tl_append] at hc
  rcases List.mem_append.mp hc with h | h
  · exact ha c h
  · exact hb c h
theorem tq_len {r : Rat} (h : (textQ r).length ≤ 570) : Tq r := by
  rw [len_tl, tl_text] at h
  have k : ∀ m : Nat, (numL m).length ≤ 570 → m.log2 < 1920 := fun m hm => by
    have := val_lt (numL_digits m) hm
    rw [numL_val] at this
    have := log_lt (Nat.lt_trans this ten_570) (by omega)
    omega
  have h2 : (iL r.num).length ≤ 570 := by
    split at h
    · exact h
    · rw [List.length_append] at h; omega
  refine ⟨k _ ?_, ?_⟩
  · unfold iL at h2
    split at h2
    · rw [List.length_cons] at h2; omega
    · exact h2
  · split at h
    · rename_i hd
      rw [hd]
      decide +kernel
    · rw [List.length_append, List.length_cons] at h
      exact k _ (by omega)
section
variable {n : Nat} {G : Cs} {l : Nat}
theorem c_bent {t : Str} {u : D} {N : Int} (ht : Asc t) (hl : t.length ≤ 1000) (hG : G[l]? = some u) (hb : BoxA N u) (hN : N + 3 < 10 ^ 12) :
    ∃ (s : Str) (u' : D), call pg true (n + 2) (.g "_law_bent") [.r l, .d (.str t)] G = some (.ok (.d (.str s)), G.set l u') ∧ Asc s ∧ s.length ≤ t.length + 1 ∧ BoxA (N + 3) u' := by
  obtain ⟨d1, u1, k1, a1, b1, x1⟩ := c_take (n := n) (m := (t.length : Int) + 1) bp hG hb (by omega) (by omega) (by
    have := log_lt (a := ((t.length : Int) + 1).natAbs) (k := 64) (by omega) (by omega)
    omega)
  obtain ⟨d2, u2, k2, a2, b2, x2⟩ := c_take (n := n) (G := G.set l u1) (m := 19) bp (get_set hG) x1 (by omega) (by omega) (by decide +kernel)
  obtain ⟨d3, u3, k3, a3, b3, x3⟩ := c_take (n := n) (G := (G.set l u1).set l u2) (m := 5) bp (get_set (get_set hG)) x2 (by omega) (by omega) (by decide +kernel)
  rw [List.set_set] at k2 k3
  rw [List.set_set] at k3
  obtain ⟨c, hc, e2⟩ := atI_mem (xs := tl signs) a2 (by rw [signs_len]; exact b2)
  have e2 : atI ("0123456789-+/. _ax\n" : Str).cps.toList d2 = some c := e2
  have hc := signs_asc c hc
  obtain ⟨p, rfl⟩ := Int.eq_ofNat_of_zero_le a1
  have lt : t.length = t.cps.toList.length := len_tl t
  have q6 : decide (("0123456789-+/. _ax\n" : Str).length ≤ line) = true := by decide +kernel
  have ht1 : ∀ k, (⟨(t.cps.toList.take k).toArray⟩ : Str).length ≤ t.length ∧ Asc ⟨(t.cps.toList.take k).toArray⟩ := fun k => ⟨by rw [mk_len, lt, List.length_take]; exact Nat.min_le_right _ _, fun x hx => ht x (List.mem_of_mem_take hx)⟩
  have ht2 : ∀ k, (⟨(t.cps.toList.drop k).toArray⟩ : Str).length ≤ t.length ∧ Asc ⟨(t.cps.toList.drop k).toArray⟩ := fun k => ⟨by rw [mk_len, lt, List.length_drop]; exact Nat.sub_le _ _, fun x hx => ht x (List.mem_of_mem_drop hx)⟩
  have hs : (⟨#[c]⟩ : Str).length = 1 ∧ Asc ⟨#[c]⟩ := ⟨rfl, fun x hx => by rw [List.mem_singleton.mp (show x ∈ [c] from hx)]; exact hc⟩
  have hln : (1000 : Nat) + 1000 + 1000 ≤ line := by decide
  have q0 : decide (t.length ≤ line) = true := decide_eq_true (by omega)
  have q1 : ∀ k, decide ((⟨(t.cps.toList.take k).toArray⟩ : Str).length + (⟨#[c]⟩ : Str).length ≤ line) = true := fun k => decide_eq_true (by have := (ht1 k).1; rw [hs.1]; omega)
  have q2 : ∀ k m, decide ((⟨(t.cps.toList.take k).toArray⟩ ++ ⟨#[c]⟩ : Str).length + (⟨(t.cps.toList.drop m).toArray⟩ : Str).length ≤ line) = true := fun k m => decide_eq_true (by have := (ht1 k).1; have := (ht2 m).1; rw [len_app, hs.1]; omega)
  have q3 : ∀ k m, decide ((⟨(t.cps.toList.take k).toArray⟩ : Str).length + (⟨(t.cps.toList.drop m).toArray⟩ : Str).length ≤ line) = true := fun k m => decide_eq_true (by have := (ht1 k).1; have := (ht2 m).1; omega)
  have q4 : decide (t.length + (⟨#[c]⟩ : Str).length ≤ line) = true := decide_eq_true (by rw [hs.1]; omega)
  have q5 : decide (4 ≤ line) = true := by decide
  have ct : cutL t.cps.toList none (some (p : Int)) = t.cps.toList.take p := cut_to _ _
  have cf : cutL t.cps.toList (some (p : Int)) none = t.cps.toList.drop p := cut_from _ _
  have cf1 : cutL t.cps.toList (some ((p : Int) + 1)) none = t.cps.toList.drop (p + 1) := cut_from _ (p + 1)
  have ls : ∀ k, (⟨(t.cps.toList.take k).toArray⟩ ++ ⟨#[c]⟩ ++ ⟨(t.cps.toList.drop k).toArray⟩ : Str).length ≤ t.length + 1 := fun k => by
    rw [len_app, len_app, hs.1, mk_len, mk_len, lt, List.length_take, List.length_drop]
    omega
  have first : d3 = 0 ∨ (p : Int) = (t.length : Int) → call pg true (n + 2) (.g "_law_bent") [.r l, .d (.str t)] G = some (.ok (.d (.str (⟨(t.cps.toList.take p).toArray⟩ ++ ⟨#[c]⟩ ++ ⟨(t.cps.toList.drop p).toArray⟩))), G.set l u3) := fun h => by
    rw [call_g f_bent rfl]
    by_cases h0 : d3 = 0
    · simp only [↓bind_ap, ↓ask_ap, ↓lift_ap, ↓sure_ap, pure_ap, stuck_ap, ↓cond_m, eX, eXs, eDs, eXo, eXt, eIt, eS, eSs, eHs, store, getV, fin, finD, asB, asI, Rv.frz, see, liftO, List.getElem?_cons_zero, List.getElem?_cons_succ, List.set_cons_zero, List.set_cons_succ, List.take_length, handed, start, List.map_cons, List.map_nil, List.length_cons, List.length_nil, List.replicate, List.cons_append, List.nil_append, List.append_nil, Nat.reduceAdd, Nat.reduceSub, hd_call, hd_cls, hd_exm, hd_has, b__law_bent_4, b__law_bent_3, b__law_bent_2, b__law_bent_1, b__law_bent, fd__law_bent, runF, eBlt, List.mapM_cons, List.mapM_nil, Option.pure_def, Option.bind_eq_bind, Option.bind_some, Option.map_some, bltD, lenD, eCmp, cmpD, eBin, binD, intBin, askO, Bool.and_self, Option.map_some, q0, q6, k1, k2, k3, ixD, e2, decide_eq_true h0, slD, ct, cf, q1, q2, take_set]
    · have h1 : (p : Int) = (t.length : Int) := h.resolve_left h0
      simp only [↓bind_ap, ↓ask_ap, ↓lift_ap, ↓sure_ap, pure_ap, stuck_ap, ↓cond_m, eX, eXs, eDs, eXo, eXt, eIt, eS, eSs, eHs, store, getV, fin, finD, asB, asI, Rv.frz, see, liftO, List.getElem?_cons_zero, List.getElem?_cons_succ, List.set_cons_zero, List.set_cons_succ, List.take_length, handed, start, List.map_cons, List.map_nil, List.length_cons, List.length_nil, List.replicate, List.cons_append, List.nil_append, List.append_nil, Nat.reduceAdd, Nat.reduceSub, hd_call, hd_cls, hd_exm, hd_has, b__law_bent_4, b__law_bent_3, b__law_bent_2, b__law_bent_1, b__law_bent, fd__law_bent, runF, eBlt, List.mapM_cons, List.mapM_nil, Option.pure_def, Option.bind_eq_bind, Option.bind_some, Option.map_some, bltD, lenD, eCmp, cmpD, eBin, binD, intBin, askO, Bool.and_self, Option.map_some, q0, q6, k1, k2, k3, ixD, e2, decide_eq_false h0, decide_eq_true h1, slD, ct, cf, q1, q2, take_set]
  by_cases h : d3 = 0 ∨ (p : Int) = (t.length : Int)
  · exact ⟨_, u3, first h, asc_app (asc_app (ht1 p).2 hs.2) (ht2 p).2, ls p, x3.mono (by omega)⟩
  · have h0 : ¬ d3 = 0 := fun z => h (.inl z)
    have h1 : ¬ (p : Int) = (t.length : Int) := fun z => h (.inr z)
    obtain ⟨s, hs4, e3⟩ := atI_mem (xs := [D.str (⟨(t.cps.toList.take p).toArray⟩ ++ ⟨(t.cps.toList.drop (p + 1)).toArray⟩), D.str (⟨(t.cps.toList.take p).toArray⟩ ++ ⟨#[c]⟩ ++ ⟨(t.cps.toList.drop (p + 1)).toArray⟩), D.str t, D.str (t ++ ⟨#[c]⟩)]) (i := d3 - 1) (by omega) (by simp; omega)
    have run : call pg true (n + 2) (.g "_law_bent") [.r l, .d (.str t)] G = some (.ok (.d s), G.set l u3) := by
      rw [call_g f_bent rfl]
      simp only [↓bind_ap, ↓ask_ap, ↓lift_ap, ↓sure_ap, pure_ap, stuck_ap, ↓cond_m, eX, eXs, eDs, eXo, eXt, eIt, eS, eSs, eHs, store, getV, fin, finD, asB, asI, Rv.frz, see, liftO, List.getElem?_cons_zero, List.getElem?_cons_succ, List.set_cons_zero, List.set_cons_succ, List.take_length, handed, start, List.map_cons, List.map_nil, List.length_cons, List.length_nil, List.replicate, List.cons_append, List.nil_append, List.append_nil, Nat.reduceAdd, Nat.reduceSub, hd_call, hd_cls, hd_exm, hd_has, b__law_bent_4, b__law_bent_3, b__law_bent_2, b__law_bent_1, b__law_bent, fd__law_bent, runF, eBlt, List.mapM_cons, List.mapM_nil, Option.pure_def, Option.bind_eq_bind, Option.bind_some, Option.map_some, bltD, lenD, eCmp, cmpD, eBin, binD, intBin, askO, Bool.and_self, Option.map_some, q0, q6, k1, k2, k3, ixD, e2, decide_eq_false h0, decide_eq_false h1, slD, ct, cf, cf1, q1, q2, q3, q4, q5, e3, take_set]
    have l5 : ∀ k, (⟨(t.cps.toList.take k).toArray⟩ ++ ⟨(t.cps.toList.drop (k + 1)).toArray⟩ : Str).length ≤ t.length + 1 := fun k => by
      rw [len_app, mk_len, mk_len, lt, List.length_take, List.length_drop]
      omega
    have l6 : ∀ k, (⟨(t.cps.toList.take k).toArray⟩ ++ ⟨#[c]⟩ ++ ⟨(t.cps.toList.drop (k + 1)).toArray⟩ : Str).length ≤ t.length + 1 := fun k => by
      rw [len_app, len_app, hs.1, mk_len, mk_len, lt, List.length_take, List.length_drop]
      omega
    have l7 : (t ++ ⟨#[c]⟩ : Str).length ≤ t.length + 1 := by rw [len_app, hs.1]; exact Nat.le_refl _
    rcases List.mem_cons.mp hs4 with rfl | hs4
    · exact ⟨_, u3, run, asc_app (ht1 p).2 (ht2 _).2, l5 p, x3.mono (by omega)⟩
    rcases List.mem_cons.mp hs4 with rfl | hs4
    · exact ⟨_, u3, run, asc_app (asc_app (ht1 p).2 hs.2) (ht2 _).2, l6 p, x3.mono (by omega)⟩
    rcases List.mem_cons.mp hs4 with rfl | hs4
    · exact ⟨_, u3, run, ht, by omega, x3.mono (by omega)⟩
    rcases List.mem_cons.mp hs4 with rfl | hs4
    · exact ⟨_, u3, run, asc_app ht hs.2, l7, x3.mono (by omega)⟩
    · cases hs4
end
end L4

set_option Elab.async false
set_option linter.all false
set_option maxRecDepth 100000
set_option maxHeartbeats 4000000
/-! One turn of the law's inner loop. -/
namespace L4
open PySem PySem.Spec PyProof.Rows L2 NumText TL
theorem isnot_rat {h : Hd} {r : Rat} {G : Cs} : eCmp h .IsNot (.d (ratD r)) (.d .non) G = some (.ok (.d (.bool true)), G) := rfl
theorem isnot_non {h : Hd} {G : Cs} : eCmp h .IsNot (.d .non) (.d .non) G = some (.ok (.d (.bool false)), G) := rfl
theorem is_non {h : Hd} {G : Cs} : eCmp h .Is (.d .non) (.d .non) G = some (.ok (.d (.bool true)), G) := rfl
theorem ne_tt {h : Hd} {G : Cs} : eCmp h .NotEq (.d (.bool true)) (.d (.bool true)) G = some (.ok (.d (.bool false)), G) := by kernel_rfl
theorem ne_ff {h : Hd} {G : Cs} : eCmp h .NotEq (.d (.bool false)) (.d (.bool false)) G = some (.ok (.d (.bool false)), G) := by kernel_rfl
theorem ne_str {h : Hd} {G : Cs} (s : Str) : eCmp h .NotEq (.d (.str s)) (.d (.str s)) G = some (.ok (.d (.bool false)), G) := by
  show (match cmpD .NotEq (.str s) (.str s) with
    | some c => some (Except.ok (Rv.d (.bool c)), G)
    | none => none) = _
  rw [show cmpD .NotEq (.str s) (.str s) = some (!decide (s = s)) from rfl, decide_eq_true rfl]
  rfl
section
variable {n : Nat} {bb : Nat}
/-- the slots within the loop of turns -/
def envT (ns : List Int) (k big a b c d sg j : Int) (t : Str) (told other : D) (o13 o14 : Option D) : Env :=
  [some (.d (.scr ns)), some (.d (.int k)), some (.r 0), some (.d (.int big)), some (.d (.int a)), some (.d (.int b)), some (.d (.str t)), some (.d told), some (.d (.int c)), some (.d (.int d)), some (.d other), some (.d (.int sg)), some (.d (.int j)), o13.map Rv.d, o14.map Rv.d, none, none]
theorem turn {ns : List Int} {k big a b c d sg j : Int} {t : Str} {told other u : D} {o13 o14 : Option D} {N : Int} (ht : Asc t) (hl : t.length ≤ 500) (hb : BoxA N u) (hN : N + 3 < 10 ^ 12) :
    ∃ (t' : Str) (u' x y : D), eSs true (hd pg true (n + 8)) bb s1_law (envT ns k big a b c d sg j t told other o13 o14) [u] = some (.nx, envT ns k big a b c d sg j t' told other (some x) (some y), [u']) ∧ Asc t' ∧ t'.length ≤ t.length + 1 ∧ BoxA (N + 3) u' := by
  obtain ⟨s, u', k1, hs, hls, hb'⟩ := c_bent (n := n + 6) (G := [u]) (l := 0) ht (by omega) rfl hb hN
  have k1 : call pg true (n + 8) (.g "_law_bent") [.r 0, .d (.str t)] [u] = some (.ok (.d (.str s)), [u']) := k1
  have d2 : decide ((2 : Int) ≠ 0) = true := by decide
  by_cases hq : ∃ r, textQ r = s
  · obtain ⟨r, hr⟩ := hq
    subst hr
    have k2 := c_told_ok (n := n + 2) (G := [u']) (pl_of (s := textQ r) (by omega))
    have k3 := c_isnum_ok (n := n + 6) (G := [u']) (r := r) (by omega)
    have k4 := c_text (n := n + 6) (G := [u']) rp (tq_len (r := r) (by omega))
    by_cases hj : j.fmod 2 = 1
    · refine ⟨textQ r, u', .str (textQ r), ratD r, ?_, hs, hls, hb'⟩
      unfold envT
      simp only [↓bind_ap, ↓ask_ap, ↓lift_ap, ↓sure_ap, pure_ap, stuck_ap, ↓cond_m, eX, eXs, eDs, eXo, eXt, eIt, eS, eSs, eHs, store, getV, fin, finD, asB, asI, Rv.frz, see, liftO, List.getElem?_cons_zero, List.getElem?_cons_succ, List.set_cons_zero, List.set_cons_succ, List.take_length, handed, start, List.map_cons, List.map_nil, List.length_cons, List.length_nil, List.replicate, List.cons_append, List.nil_append, List.append_nil, Nat.reduceAdd, Nat.reduceSub, hd_call, hd_cls, hd_exm, hd_has, s1_law, s1_law_1, s1_law_2, s1_law_3, s1_law_4, k1, k2, k3, ↓isnot_rat, ↓ne_tt, newOf, kind_text rp, met_rat, k4, ↓ne_str, binD, eBin, intBin, askO, d2, Option.map_some, eCmp, cmpD, decide_eq_true hj]
    · refine ⟨t, u', .str (textQ r), ratD r, ?_, ht, by omega, hb'⟩
      unfold envT
      simp only [↓bind_ap, ↓ask_ap, ↓lift_ap, ↓sure_ap, pure_ap, stuck_ap, ↓cond_m, eX, eXs, eDs, eXo, eXt, eIt, eS, eSs, eHs, store, getV, fin, finD, asB, asI, Rv.frz, see, liftO, List.getElem?_cons_zero, List.getElem?_cons_succ, List.set_cons_zero, List.set_cons_succ, List.take_length, handed, start, List.map_cons, List.map_nil, List.length_cons, List.length_nil, List.replicate, List.cons_append, List.nil_append, List.append_nil, Nat.reduceAdd, Nat.reduceSub, hd_call, hd_cls, hd_exm, hd_has, s1_law, s1_law_1, s1_law_2, s1_law_3, s1_law_4, k1, k2, k3, ↓isnot_rat, ↓ne_tt, newOf, kind_text rp, met_rat, k4, ↓ne_str, binD, eBin, intBin, askO, d2, Option.map_some, eCmp, cmpD, decide_eq_false hj]
  · have hq' : ∀ r, textQ r ≠ s := fun r e => hq ⟨r, e⟩
    have k2 := c_told_bad (n := n + 2) (G := [u']) (pl_of (s := s) (by omega)) hq'
    have k3 := c_isnum_bad (n := n + 6) (G := [u']) hs (by omega) hq'
    by_cases hj : j.fmod 2 = 1
    · refine ⟨s, u', .str s, .non, ?_, hs, hls, hb'⟩
      unfold envT
      simp only [↓bind_ap, ↓ask_ap, ↓lift_ap, ↓sure_ap, pure_ap, stuck_ap, ↓cond_m, eX, eXs, eDs, eXo, eXt, eIt, eS, eSs, eHs, store, getV, fin, finD, asB, asI, Rv.frz, see, liftO, List.getElem?_cons_zero, List.getElem?_cons_succ, List.set_cons_zero, List.set_cons_succ, List.take_length, handed, start, List.map_cons, List.map_nil, List.length_cons, List.length_nil, List.replicate, List.cons_append, List.nil_append, List.append_nil, Nat.reduceAdd, Nat.reduceSub, hd_call, hd_cls, hd_exm, hd_has, s1_law, s1_law_1, s1_law_2, s1_law_3, s1_law_4, k1, k2, k3, ↓isnot_non, ↓ne_ff, binD, eBin, intBin, askO, d2, Option.map_some, eCmp, cmpD, decide_eq_true hj]
    · refine ⟨t, u', .str s, .non, ?_, ht, by omega, hb'⟩
      unfold envT
      simp only [↓bind_ap, ↓ask_ap, ↓lift_ap, ↓sure_ap, pure_ap, stuck_ap, ↓cond_m, eX, eXs, eDs, eXo, eXt, eIt, eS, eSs, eHs, store, getV, fin, finD, asB, asI, Rv.frz, see, liftO, List.getElem?_cons_zero, List.getElem?_cons_succ, List.set_cons_zero, List.set_cons_succ, List.take_length, handed, start, List.map_cons, List.map_nil, List.length_cons, List.length_nil, List.replicate, List.cons_append, List.nil_append, List.append_nil, Nat.reduceAdd, Nat.reduceSub, hd_call, hd_cls, hd_exm, hd_has, s1_law, s1_law_1, s1_law_2, s1_law_3, s1_law_4, k1, k2, k3, ↓isnot_non, ↓ne_ff, binD, eBin, intBin, askO, d2, Option.map_some, eCmp, cmpD, decide_eq_false hj]
/-- the loop of turns -/
theorem turns {ns : List Int} {k big a b c d sg : Int} {t : Str} {told other u : D} {o12 o13 o14 : Option D} {N : Int} (ht : Asc t) (hl : t.length ≤ 400) (hb : BoxA N u) (hN : N + 100 < 10 ^ 12) :
    ∃ (t' : Str) (u' : D) (j : Int) (x y : Option D), forL (fun ρ G => eSs true (hd pg true (n + 8)) bb s1_law ρ G) (.name 12) [] (rangeD 0 8)
      [some (.d (.scr ns)), some (.d (.int k)), some (.r 0), some (.d (.int big)), some (.d (.int a)), some (.d (.int b)), some (.d (.str t)), some (.d told), some (.d (.int c)), some (.d (.int d)), some (.d other), some (.d (.int sg)), o12.map Rv.d, o13.map Rv.d, o14.map Rv.d, none, none] [u] = some (.nx, envT ns k big a b c d sg j t' told other x y, [u']) ∧ BoxA (N + 24) u' := by
  obtain ⟨ρ', G', h1, t', u', o, x, y, rfl, rfl, _, _, hb'⟩ := for_all (body := fun ρ G => eSs true (hd pg true (n + 8)) bb s1_law ρ G) (tg := .name 12) (fun i ρ G => ∃ (t' : Str) (u' : D) (o x y : Option D), ρ = [some (.d (.scr ns)), some (.d (.int k)), some (.r 0), some (.d (.int big)), some (.d (.int a)), some (.d (.int b)), some (.d (.str t')), some (.d told), some (.d (.int c)), some (.d (.int d)), some (.d other), some (.d (.int sg)), o.map Rv.d, x.map Rv.d, y.map Rv.d, none, none] ∧ G = [u'] ∧ Asc t' ∧ t'.length ≤ t.length + i ∧ BoxA (N + 3 * i) u' ∧ (0 < i → ∃ j, o = some (.int j)))
    (rangeD 0 8) 0 _ [u] ⟨t, u, o12, o13, o14, rfl, rfl, ht, by omega, hb.mono (by omega), by omega⟩ (fun j x ρ G hx hi => by
      obtain ⟨t', u', o, x', y', rfl, rfl, ht', hl', hb', _⟩ := hi
      have hj : j < 8 := by
        have := (List.getElem?_eq_some_iff.mp hx).1
        simpa [rangeD] using this
      have ex : x = .int (0 + (j : Int)) := by
        unfold rangeD at hx
        rw [List.getElem?_map, List.getElem?_range hj] at hx
        exact (Option.some.inj hx).symm
      subst ex
      obtain ⟨t2, u2, z, z2, h1, h2, h3, h4⟩ := turn (n := n) (bb := bb) (ns := ns) (k := k) (big := big) (a := a) (b := b) (c := c) (d := d) (sg := sg) (j := 0 + (j : Int)) (told := told) (other := other) (o13 := x') (o14 := y') ht' (by omega) hb' (by omega)
      refine ⟨_, _, _, rfl, h1, t2, u2, some (.int (0 + (j : Int))), some z, some z2, rfl, rfl, h2, by omega, h4.mono (by omega), fun _ => ⟨_, rfl⟩⟩)
  rename_i hj
  obtain ⟨hb', hj⟩ := hb'
  obtain ⟨j, rfl⟩ := hj (by decide)
  exact ⟨t', u', j, x, y, h1, hb'.mono (by show N + 3 * ((0 + (rangeD 0 8).length : Nat) : Int) ≤ _; simp [rangeD])⟩
end
end L4

set_option Elab.async false
set_option linter.all false
set_option maxRecDepth 100000
set_option maxHeartbeats 4000000
/-! One round of the law. -/
namespace L4
open PySem PySem.Spec PyProof.Rows L2 NumText TL
/-! ### sums of quotients -/
theorem r_add {a b c d : Int} (hb : b ≠ 0) (hd : d ≠ 0) : Rat.divInt a b + Rat.divInt c d = Rat.divInt (a * d + c * b) (b * d) := Rat.divInt_add_divInt _ _ hb hd
theorem r_sub {a b c d : Int} (hb : b ≠ 0) (hd : d ≠ 0) : Rat.divInt a b - Rat.divInt c d = Rat.divInt (a * d - c * b) (b * d) := Rat.divInt_sub_divInt _ _ hb hd
theorem r_mul (a b c d : Int) : Rat.divInt a b * Rat.divInt c d = Rat.divInt (a * c) (b * d) := Rat.divInt_mul_divInt _ _
theorem r_neg (a b : Int) : -Rat.divInt a b = Rat.divInt (0 - a) b := by rw [Int.zero_sub, Rat.neg_divInt]
theorem r_over {a b c d sg : Int} (h : sg ≠ 0) : Rat.divInt a b / Rat.divInt c d = Rat.divInt (a * d * sg) (b * c * sg) := by
  rw [Rat.div_def, Rat.inv_divInt, Rat.divInt_mul_divInt, Rat.divInt_mul_right h]
/-- bounds -/
theorem sm_of {t b : Int} (h0 : b ≠ 0) (ht : t.natAbs < 2 ^ 1900) (hb : b.natAbs < 2 ^ 1900) : Sm 4000 (Rat.divInt t b) :=
  ⟨Nat.lt_trans (Nat.lt_of_le_of_lt (num_le h0) ht) (Nat.pow_lt_pow_right (by omega) (by omega)), Nat.lt_trans (Nat.lt_of_le_of_lt (den_le h0) hb) (Nat.pow_lt_pow_right (by omega) (by omega))⟩
theorem big_lt {x : Int} (h : x.natAbs < 10 ^ 40) : x.natAbs < 2 ^ 1900 := Nat.lt_trans h (by decide +kernel)
theorem text_small {a b : Int} (h0 : b ≠ 0) (ha : a.natAbs < 10 ^ 40) (hb : b.natAbs < 10 ^ 40) : (textQ (Rat.divInt a b)).length ≤ 100 := by
  rw [len_tl, tl_text]
  have h1 : (numL (Rat.divInt a b).num.natAbs).length ≤ 40 := numL_len (by omega) (Nat.lt_of_le_of_lt (num_le h0) ha)
  have h2 : (numL (Rat.divInt a b).den).length ≤ 40 := numL_len (by omega) (Nat.lt_of_le_of_lt (den_le h0) hb)
  have h3 : (iL (Rat.divInt a b).num).length ≤ 41 := by
    unfold iL
    split
    · rw [List.length_cons]; omega
    · omega
  split
  · omega
  · rw [List.length_append, List.length_cons]; omega
theorem mul_ok' (big : Int) (h0 : 0 < big) (h1 : big ≤ 10 ^ 27) : decide ((2 : Int).natAbs.log2 + big.natAbs.log2 < 1000000) = true := szM_of (k := 1900) (by decide +kernel) (big_lt (by omega)) (by omega)
section
variable {n : Nat} {bb : Nat} {ns : List Int}
/-- the slots at the round's start, its box made -/
def envR (ns : List Int) (k : Int) (o3 o4 o5 o6 o7 o8 o9 o10 o11 o12 o13 o14 : Option D) : Env :=
  [some (.d (.scr ns)), some (.d (.int k)), some (.r 0), o3.map Rv.d, o4.map Rv.d, o5.map Rv.d, o6.map Rv.d, o7.map Rv.d, o8.map Rv.d, o9.map Rv.d, o10.map Rv.d, o11.map Rv.d, o12.map Rv.d, o13.map Rv.d, o14.map Rv.d, none, none]
theorem usedO (l : Nat) (o : Option D) (r : Env) : used.go l (o.map Rv.d :: r) = used.go l r := by cases o <;> rfl
theorem used_R {k : Int} {o3 o4 o5 o6 o7 o8 o9 o10 o11 o12 o13 o14 : Option D} : used 0 2 (envR ns k o3 o4 o5 o6 o7 o8 o9 o10 o11 o12 o13 o14) = false := by
  show used.go 0 (o3.map Rv.d :: o4.map Rv.d :: o5.map Rv.d :: o6.map Rv.d :: o7.map Rv.d :: o8.map Rv.d :: o9.map Rv.d :: o10.map Rv.d :: o11.map Rv.d :: o12.map Rv.d :: o13.map Rv.d :: o14.map Rv.d :: [none, none]) = false
  rw [usedO, usedO, usedO, usedO, usedO, usedO, usedO, usedO, usedO, usedO, usedO, usedO]
  rfl
/-- the first statement: a box -/
theorem round_0 {k : Nat} {o3 o4 o5 o6 o7 o8 o9 o10 o11 o12 o13 o14 : Option D} (hk : k < 2 ^ 60) {s2 : Option Rv} {G : Cs} (h : (s2 = none ∧ G = []) ∨ (s2 = some (.r 0) ∧ ∃ u, G = [u])) :
    ∃ u, BoxA 0 u ∧ eSs true (hd pg true (n + 1)) 0 s0_law [some (.d (.scr ns)), some (.d (.int (k : Int))), s2, o3.map Rv.d, o4.map Rv.d, o5.map Rv.d, o6.map Rv.d, o7.map Rv.d, o8.map Rv.d, o9.map Rv.d, o10.map Rv.d, o11.map Rv.d, o12.map Rv.d, o13.map Rv.d, o14.map Rv.d, none, none] G =
      eSs true (hd pg true (n + 1)) 0 s0_law_1 (envR ns k o3 o4 o5 o6 o7 o8 o9 o10 o11 o12 o13 o14) [u] := by
  obtain ⟨u, k1, hb⟩ := c_box (n := n) (G := G) bp ns k hk
  refine ⟨u, hb, ?_⟩
  rcases h with ⟨rfl, rfl⟩ | ⟨rfl, u0, rfl⟩
  · unfold envR
    simp only [↓bind_ap, ↓ask_ap, ↓lift_ap, ↓sure_ap, pure_ap, stuck_ap, ↓cond_m, eX, eXs, eDs, eXo, eXt, eIt, eS, eSs, eHs, store, getV, fin, finD, asB, asI, Rv.frz, see, liftO, List.getElem?_cons_zero, List.getElem?_cons_succ, List.set_cons_zero, List.set_cons_succ, List.take_length, handed, start, List.map_cons, List.map_nil, List.length_cons, List.length_nil, List.replicate, List.cons_append, List.nil_append, List.append_nil, Nat.reduceAdd, Nat.reduceSub, hd_call, hd_cls, hd_exm, hd_has, s0_law, k1]
  · have e := used_R (ns := ns) (k := (k : Int)) (o3 := o3) (o4 := o4) (o5 := o5) (o6 := o6) (o7 := o7) (o8 := o8) (o9 := o9) (o10 := o10) (o11 := o11) (o12 := o12) (o13 := o13) (o14 := o14)
    unfold envR at e ⊢
    simp only [↓bind_ap, ↓ask_ap, ↓lift_ap, ↓sure_ap, pure_ap, stuck_ap, ↓cond_m, eX, eXs, eDs, eXo, eXt, eIt, eS, eSs, eHs, store, getV, fin, finD, asB, asI, Rv.frz, see, liftO, List.getElem?_cons_zero, List.getElem?_cons_succ, List.set_cons_zero, List.set_cons_succ, List.take_length, handed, start, List.map_cons, List.map_nil, List.length_cons, List.length_nil, List.replicate, List.cons_append, List.nil_append, List.append_nil, Nat.reduceAdd, Nat.reduceSub, hd_call, hd_cls, hd_exm, hd_has, s0_law, k1, e, Nat.le_refl, Nat.zero_lt_one, and_self, if_true]
/-- the first half of a round -/
theorem round_1 {k : Int} {o3 o4 o5 o6 o7 o8 o9 o10 o11 o12 o13 o14 : Option D} {u : D} (hb : BoxA 0 u) :
    ∃ (u' : D) (big a b : Int), BoxA 3 u' ∧ a.natAbs < 10 ^ 30 ∧ 0 < b ∧ b < 10 ^ 30 ∧ eSs true (hd pg true (n + 8)) 0 s0_law_1 (envR ns k o3 o4 o5 o6 o7 o8 o9 o10 o11 o12 o13 o14) [u] =
      eSs true (hd pg true (n + 8)) 0 s0_law_6 (envR ns k (some (.int big)) (some (.int a)) (some (.int b)) (some (.str (textQ (Rat.divInt a b)))) (some (ratD (Rat.divInt a b))) o8 o9 o10 o11 o12 o13 o14) [u'] := by
  obtain ⟨d1, u1, k1, a1, b1, x1⟩ := c_take (n := n + 7) (G := [u]) (l := 0) (m := 4) bp rfl hb (by omega) (by omega) (by decide +kernel)
  obtain ⟨bigd, hm, e1⟩ := atI_mem (xs := [D.int 9, D.int 40, D.int (10 ^ (6 : Int).toNat), D.int (10 ^ (27 : Int).toNat)]) a1 (by simpa using b1)
  obtain ⟨big, rfl, hg0, hg1⟩ : ∃ big : Int, bigd = .int big ∧ 0 < big ∧ big ≤ 10 ^ 27 := by
    simp only [List.mem_cons, List.not_mem_nil, or_false] at hm
    rcases hm with rfl | rfl | rfl | rfl
    · exact ⟨_, rfl, by decide, by decide⟩
    · exact ⟨_, rfl, by decide, by decide⟩
    · exact ⟨_, rfl, by decide, by decide⟩
    · exact ⟨_, rfl, by decide, by decide⟩
  have lb : ∀ x : Int, x.natAbs < 10 ^ 40 → x.natAbs.log2 < 9000 := fun x hx => by
    have := log_lt (big_lt hx) (by omega)
    omega
  obtain ⟨d2, u2, k2, a2, b2, x2⟩ := c_take (n := n + 7) (G := [u1]) (l := 0) (m := 2 * big) bp rfl x1 (by omega) (by omega) (lb _ (by omega))
  obtain ⟨d3, u3, k3, a3, b3, x3⟩ := c_take (n := n + 7) (G := [u2]) (l := 0) (m := big) bp rfl x2 (by omega) (by omega) (lb _ (by omega))
  have k1 : call pg true (n + 8) (.g "_law_take") [.r 0, .d (.int 4)] [u] = some (.ok (.d (.int d1)), [u1]) := k1
  have k2 : call pg true (n + 8) (.g "_law_take") [.r 0, .d (.int (2 * big))] [u1] = some (.ok (.d (.int d2)), [u2]) := k2
  have k3 : call pg true (n + 8) (.g "_law_take") [.r 0, .d (.int big)] [u2] = some (.ok (.d (.int d3)), [u3]) := k3
  have hA : (d2 - big).natAbs < 10 ^ 30 := by omega
  have hB0 : 1 + d3 ≠ 0 := by omega
  have hA2 : (d2 - big).natAbs < 10 ^ 40 := by omega
  have hB2 : (1 + d3).natAbs < 10 ^ 40 := by omega
  have tq := tq_of hB0 (big_lt hA2) (big_lt hB2)
  have k4 := c_word (n := n + 7) (G := [u3]) (d2 - big) (1 + d3) (by omega) (Nat.lt_trans (big_lt hB2) (Nat.pow_lt_pow_right (by omega) (by omega))) tq
  have k5 := c_mk (n := n + 6) (G := [u3]) rp (d2 - big) (1 + d3) hB0 (szQ_of (Nat.lt_trans (big_lt hB2) (Nat.pow_lt_pow_right (by omega) (by omega))) hB0)
  have k6 := c_text (n := n + 6) (G := [u3]) rp tq
  have k7 := c_isnum_ok (n := n + 6) (G := [u3]) (r := Rat.divInt (d2 - big) (1 + d3)) (Nat.le_trans (text_small hB0 hA2 hB2) (by omega))
  have m1 := mul_ok' big hg0 hg1
  have p1 : decide ((0 : Int) ≤ 6) = true := by decide
  have p2 : decide ((6 : Int) ≤ 1000000) = true := by decide
  have p3 : decide ((10 : Int).natAbs < 2 ^ 64) = true := by decide
  have p4 : decide ((0 : Int) ≤ 27) = true := by decide
  have p5 : decide ((27 : Int) ≤ 1000000) = true := by decide
  have p6 : decide (4 ≤ line) = true := by decide
  refine ⟨u3, big, d2 - big, 1 + d3, x3.mono (by omega), hA, by omega, by omega, ?_⟩
  unfold envR
  simp only [↓bind_ap, ↓ask_ap, ↓lift_ap, ↓sure_ap, pure_ap, stuck_ap, ↓cond_m, eX, eXs, eDs, eXo, eXt, eIt, eS, eSs, eHs, store, getV, fin, finD, asB, asI, Rv.frz, see, liftO, List.getElem?_cons_zero, List.getElem?_cons_succ, List.set_cons_zero, List.set_cons_succ, List.take_length, handed, start, List.map_cons, List.map_nil, List.length_cons, List.length_nil, List.replicate, List.cons_append, List.nil_append, List.append_nil, Nat.reduceAdd, Nat.reduceSub, hd_call, hd_cls, hd_exm, hd_has, s0_law_1, s0_law_2, s0_law_3, s0_law_4, s0_law_5, Option.map_some, eBin, binD, intBin, askO, p1, p2, p3, p4, p5, p6, Bool.and_self, k1, Option.bind_some, ixD, e1, parK, setAll, m1, k2, k3, k4, k5, newOf, kind_text rp, met_rat, k6, ↓ne_str, k7, Bool.not_true]
end
end L4

set_option Elab.async false
set_option linter.all false
set_option maxRecDepth 100000
set_option maxHeartbeats 4000000
/-! The second half of a round. -/
namespace L4
open PySem PySem.Spec PyProof.Rows L2 NumText TL
section
variable {n : Nat} {ns : List Int}
theorem divInt_zero {t b : Int} (h : b ≠ 0) (z : Rat.divInt t b = 0) : t = 0 := by
  have e := rdiv_num (t := t) h
  rw [z] at e
  have : (t.fdiv (rdiv t b)) * rdiv t b = t := by
    refine Int.fdiv_mul_cancel ?_
    have h1 : ((Int.gcd t b : Nat) : Int) ∣ t := Int.gcd_dvd_left t b
    unfold rdiv
    split
    · exact Int.neg_dvd.mpr h1
    · exact h1
  rw [e] at this
  rw [← this]
  exact Int.zero_mul _
theorem dec_ne {a b : Int} (h : a ≠ b) : decide (a = b) = false := decide_eq_false h
/-- the quotients agree -/
theorem round_2 {k big a b : Int} {o8 o9 o10 o11 o12 o13 o14 : Option D} {u : D} (hb : BoxA 3 u) (hA : a.natAbs < 10 ^ 30) (hB : 0 < b) (hB1 : b < 10 ^ 30) :
    ∃ (u' : D) (c d sg : Int), BoxA 5 u' ∧ eSs true (hd pg true (n + 8)) 0 s0_law_6 (envR ns k (some (.int big)) (some (.int a)) (some (.int b)) (some (.str (textQ (Rat.divInt a b)))) (some (ratD (Rat.divInt a b))) o8 o9 o10 o11 o12 o13 o14) [u] =
      eSs true (hd pg true (n + 8)) 0 s0_law_12 (envR ns k (some (.int big)) (some (.int a)) (some (.int b)) (some (.str (textQ (Rat.divInt a b)))) (some (ratD (Rat.divInt a b))) (some (.int c)) (some (.int d)) (some (ratD (Rat.divInt c d))) (some (.int sg)) o12 o13 o14) [u'] := by
  obtain ⟨d1, u1, k1, a1, b1, x1⟩ := c_take (n := n + 7) (G := [u]) (l := 0) (m := 99) bp rfl hb (by omega) (by omega) (by decide +kernel)
  obtain ⟨d2, u2, k2, a2, b2, x2⟩ := c_take (n := n + 7) (G := [u1]) (l := 0) (m := 40) bp rfl x1 (by omega) (by omega) (by decide +kernel)
  have k1 : call pg true (n + 8) (.g "_law_take") [.r 0, .d (.int 99)] [u] = some (.ok (.d (.int d1)), [u1]) := k1
  have k2 : call pg true (n + 8) (.g "_law_take") [.r 0, .d (.int 40)] [u1] = some (.ok (.d (.int d2)), [u2]) := k2
  obtain ⟨c, hc⟩ : ∃ c, c = d1 - 49 := ⟨_, rfl⟩
  obtain ⟨d, hd⟩ : ∃ d, d = 1 + d2 := ⟨_, rfl⟩
  have hc1 : c.natAbs < 100 := by omega
  have hd1 : 0 < d := by omega
  have hd2 : d < 100 := by omega
  have hb0 : b ≠ 0 := by omega
  have hd0 : d ≠ 0 := by omega
  have nA : a.natAbs < 10 ^ 40 := by omega
  have nB : b.natAbs < 10 ^ 40 := by omega
  have nC : c.natAbs < 10 ^ 40 := by omega
  have nD : d.natAbs < 10 ^ 40 := by omega
  have mm : ∀ x y : Int, x.natAbs < 10 ^ 40 → y.natAbs < 10 ^ 40 → decide (x.natAbs.log2 + y.natAbs.log2 < 1000000) = true := fun x y hx hy => szM_of (k := 1900) (big_lt hx) (big_lt hy) (by omega)
  have pr : ∀ x y : Int, x.natAbs < 10 ^ 30 → y.natAbs < 100 → (x * y).natAbs < 10 ^ 32 := fun x y hx hy => by
    rw [Int.natAbs_mul]
    exact Nat.lt_of_lt_of_le (Nat.mul_lt_mul'' hx hy) (by decide)
  have pAD := pr a d hA (by omega)
  have pAC := pr a c hA (by omega)
  have pBD := pr b d (by omega) (by omega)
  have pBC := pr b c (by omega) (by omega)
  have eCB : c * b = b * c := Int.mul_comm _ _
  have zBD : b * d ≠ 0 := Int.mul_ne_zero hb0 hd0
  have gBD : 0 < b * d := Int.mul_pos hB hd1
  have r1 := sm_of hb0 (big_lt nA) (big_lt nB)
  have s1 := sm_of hd0 (big_lt nC) (big_lt nD)
  have wd : ∀ (x y : Int), 0 < y → x.natAbs < 10 ^ 40 → y.natAbs < 10 ^ 40 → call pg true (n + 8) (.g "_law_word") [.d (.int x), .d (.int y)] [u2] = some (.ok (.d (.str (textQ (Rat.divInt x y)))), [u2]) := fun x y hy h1 h2 =>
    c_word (n := n + 7) (G := [u2]) x y hy (Nat.lt_trans (big_lt h2) (Nat.pow_lt_pow_right (by omega) (by omega))) (tq_of (by omega) (big_lt h1) (big_lt h2))
  have tx : ∀ (x y : Int), y ≠ 0 → x.natAbs < 10 ^ 40 → y.natAbs < 10 ^ 40 → call pg true (n + 8) (.m "Ratio" "text") [.d (ratD (Rat.divInt x y))] [u2] = some (.ok (.d (.str (textQ (Rat.divInt x y)))), [u2]) := fun x y hy h1 h2 =>
    c_text (n := n + 6) (G := [u2]) rp (tq_of hy (big_lt h1) (big_lt h2))
  have km := c_mk (n := n + 6) (G := [u2]) rp c d hd0 (szQ_of (Nat.lt_trans (big_lt nD) (Nat.pow_lt_pow_right (by omega) (by omega))) hd0)
  -- sum, product, difference, opposite
  have kadd : eBin (L4.hd pg true (n + 8)) .Add (.d (ratD (Rat.divInt a b))) (.d (ratD (Rat.divInt c d))) [u2] = some (.ok (.n (ratD (Rat.divInt (a * d + c * b) (b * d)))), [u2]) := by
    rw [bin_rat rp rfl (.rat _), c_add (n := n + 4) rp (.rat _) r1 s1, r_add hb0 hd0]
  have kmul : eBin (L4.hd pg true (n + 8)) .Mult (.d (ratD (Rat.divInt a b))) (.d (ratD (Rat.divInt c d))) [u2] = some (.ok (.n (ratD (Rat.divInt (a * c) (b * d)))), [u2]) := by
    rw [bin_rat rp rfl (.rat _), c_mul (n := n + 4) rp (.rat _) r1 s1, r_mul]
  have ksub : eBin (L4.hd pg true (n + 8)) .Sub (.d (ratD (Rat.divInt a b))) (.d (ratD (Rat.divInt c d))) [u2] = some (.ok (.n (ratD (Rat.divInt (a * d - c * b) (b * d)))), [u2]) := by
    rw [bin_rat rp rfl (.rat _), c_sub (n := n + 4) rp (.rat _) r1 s1, r_sub hb0 hd0]
  have kneg : eNeg (L4.hd pg true (n + 8)) (.d (ratD (Rat.divInt a b))) [u2] = some (.ok (.n (ratD (Rat.divInt (0 - a) b))), [u2]) := by
    rw [neg_rat rp, c_neg (n := n + 5) rp r1, r_neg]
  have t1 := tx (a * d + c * b) (b * d) zBD (by omega) (by omega)
  have t2 := tx (a * c) (b * d) zBD (by omega) (by omega)
  have t3 := tx (a * d - c * b) (b * d) zBD (by omega) (by omega)
  have t4 := tx (0 - a) b hb0 (by omega) (by omega)
  have w1 := wd (a * d + c * b) (b * d) gBD (by omega) (by omega)
  have w2 := wd (a * c) (b * d) gBD (by omega) (by omega)
  have w3 := wd (a * d - c * b) (b * d) gBD (by omega) (by omega)
  have w4 := wd (0 - a) b hB (by omega) (by omega)
  have m1 := mm a d nA nD
  have m2 := mm c b nC nB
  have m3 := mm b d nB nD
  have m4 := mm a c nA nC
  have m5 := mm b c nB nC
  by_cases c0 : c = 0
  · subst c0
    refine ⟨u2, 0, d, -1, x2.mono (by omega), ?_⟩
    have hg : decide ((0 : Int) < 0) = false := by decide
    have hz : decide ((0 : Int) = 0) = true := by decide
    unfold envR
    simp only [↓bind_ap, ↓ask_ap, ↓lift_ap, ↓sure_ap, pure_ap, stuck_ap, ↓cond_m, eX, eXs, eDs, eXo, eXt, eIt, eS, eSs, eHs, store, getV, fin, finD, asB, asI, Rv.frz, see, liftO, List.getElem?_cons_zero, List.getElem?_cons_succ, List.set_cons_zero, List.set_cons_succ, List.take_length, handed, start, List.map_cons, List.map_nil, List.length_cons, List.length_nil, List.replicate, List.cons_append, List.nil_append, List.append_nil, Nat.reduceAdd, Nat.reduceSub, hd_call, hd_cls, hd_exm, hd_has, s0_law_6, s0_law_7, s0_law_8, s0_law_9, s0_law_10, s0_law_11, Option.map_some, parK, setAll, ↓kadd, ↓kmul, ↓ksub, ↓kneg, k1, k2, ← hc, ← hd, km, newOf, kind_text rp, kind_over rp, mu_text, mu_over, met_rat, t1, t2, t3, t4, w1, w2, w3, w4, ↓ne_str, eCmp, cmpD, eBin, binD, intBin, askO, Bool.and_self, Option.map_some, m1, m2, m3, m4, m5, hg, hz, eNeg, decide_true, Bool.not_true]
  · obtain ⟨sg, hsg, hs1⟩ : ∃ sg : Int, (if 0 < c then (1 : Int) else -1) = sg ∧ 0 < c * sg ∧ (c * sg).natAbs < 100 ∧ sg ≠ 0 ∧ sg.natAbs < 10 ^ 40 := by
      by_cases h : 0 < c
      · exact ⟨1, if_pos h, by omega, by omega, by omega, by decide⟩
      · exact ⟨-1, if_neg h, by omega, by omega, by omega, by decide⟩
    obtain ⟨hs1, hs2, hs3, hs4⟩ := hs1
    refine ⟨u2, c, d, sg, x2.mono (by omega), ?_⟩
    have eBCS : b * c * sg = b * (c * sg) := Int.mul_assoc _ _ _
    have pBCS := pr b (c * sg) (by omega) hs2
    have gBCS : 0 < b * c * sg := by rw [eBCS]; exact Int.mul_pos hB hs1
    have pADS : (a * d * sg).natAbs < 10 ^ 34 := by
      rw [Int.natAbs_mul]
      have : sg.natAbs < 100 := by
        rw [Int.natAbs_mul] at hs2
        have : 1 ≤ c.natAbs := by omega
        exact Nat.lt_of_le_of_lt (Nat.le_mul_of_pos_left _ this) hs2
      exact Nat.lt_of_lt_of_le (Nat.mul_lt_mul'' pAD this) (by decide)
    have kover : call pg true (n + 8) (.m "Ratio" "over") [.d (ratD (Rat.divInt a b)), .d (ratD (Rat.divInt c d))] [u2] = some (.ok (.n (ratD (Rat.divInt (a * d * sg) (b * c * sg)))), [u2]) := by
      rw [c_over (n := n + 4) rp (.rat _) (fun z => ?_) r1 s1, r_over hs3]
      exact c0 (divInt_zero hd0 z)
    rw [← eBCS] at pBCS
    have t5 := tx (a * d * sg) (b * c * sg) (by omega) (by omega) (by omega)
    have w5 := wd (a * d * sg) (b * c * sg) gBCS (by omega) (by omega)
    have m6 := mm (a * d) sg (by omega) hs4
    have m7 := mm (b * c) sg (by omega) hs4
    have hz : decide (c = 0) = false := decide_eq_false c0
    by_cases hg0 : 0 < c
    · have hg : decide (0 < c) = true := decide_eq_true hg0
      rw [if_pos hg0] at hsg
      subst hsg
      unfold envR
      simp only [↓bind_ap, ↓ask_ap, ↓lift_ap, ↓sure_ap, pure_ap, stuck_ap, ↓cond_m, eX, eXs, eDs, eXo, eXt, eIt, eS, eSs, eHs, store, getV, fin, finD, asB, asI, Rv.frz, see, liftO, List.getElem?_cons_zero, List.getElem?_cons_succ, List.set_cons_zero, List.set_cons_succ, List.take_length, handed, start, List.map_cons, List.map_nil, List.length_cons, List.length_nil, List.replicate, List.cons_append, List.nil_append, List.append_nil, Nat.reduceAdd, Nat.reduceSub, hd_call, hd_cls, hd_exm, hd_has, s0_law_6, s0_law_7, s0_law_8, s0_law_9, s0_law_10, s0_law_11, Option.map_some, parK, setAll, ↓kadd, ↓kmul, ↓ksub, ↓kneg, k1, k2, ← hc, ← hd, km, newOf, kind_text rp, kind_over rp, mu_text, mu_over, met_rat, kover, t1, t2, t3, t4, t5, w1, w2, w3, w4, w5, ↓ne_str, eCmp, cmpD, eBin, binD, intBin, askO, Bool.and_self, Option.map_some, m1, m2, m3, m4, m5, m6, m7, hg, hz, eNeg, Bool.not_false]
    · have hg : decide (0 < c) = false := decide_eq_false hg0
      rw [if_neg hg0] at hsg
      subst hsg
      unfold envR
      simp only [↓bind_ap, ↓ask_ap, ↓lift_ap, ↓sure_ap, pure_ap, stuck_ap, ↓cond_m, eX, eXs, eDs, eXo, eXt, eIt, eS, eSs, eHs, store, getV, fin, finD, asB, asI, Rv.frz, see, liftO, List.getElem?_cons_zero, List.getElem?_cons_succ, List.set_cons_zero, List.set_cons_succ, List.take_length, handed, start, List.map_cons, List.map_nil, List.length_cons, List.length_nil, List.replicate, List.cons_append, List.nil_append, List.append_nil, Nat.reduceAdd, Nat.reduceSub, hd_call, hd_cls, hd_exm, hd_has, s0_law_6, s0_law_7, s0_law_8, s0_law_9, s0_law_10, s0_law_11, Option.map_some, parK, setAll, ↓kadd, ↓kmul, ↓ksub, ↓kneg, k1, k2, ← hc, ← hd, km, newOf, kind_text rp, kind_over rp, mu_text, mu_over, met_rat, kover, t1, t2, t3, t4, t5, w1, w2, w3, w4, w5, ↓ne_str, eCmp, cmpD, eBin, binD, intBin, askO, Bool.and_self, Option.map_some, m1, m2, m3, m4, m5, m6, m7, hg, hz, eNeg, Bool.not_false]
end
end L4

set_option Elab.async false
set_option linter.all false
set_option maxRecDepth 100000
set_option maxHeartbeats 4000000
/-! The law, whole. -/
namespace L4
open PySem PySem.Spec PyProof.Rows L2 NumText TL
section
variable {n : Nat} {ns : List Int}
/-- all rounds -/
theorem rounds (m : Nat) (hm : m ≤ 10) : ∃ ρ' G' k o3 o4 o5 o6 o7 o8 o9 o10 o11 o12 o13 o14, forL (fun ρ G => eSs true (hd pg true (n + 8)) 0 s0_law ρ G) (.name 1) [] (rangeD 0 m) [some (.d (.scr ns)), none, none, none, none, none, none, none, none, none, none, none, none, none, none, none, none] [] = some (.nx, ρ', G') ∧
    (0 < m → ρ' = envR ns k o3 o4 o5 o6 o7 o8 o9 o10 o11 o12 o13 o14 ∧ ∃ u, G' = [u]) := by
  obtain ⟨ρ', G', h1, h2⟩ := for_all (body := fun ρ G => eSs true (hd pg true (n + 8)) 0 s0_law ρ G) (tg := .name 1) (fun i ρ G => ∃ (o1 : Option D) (s2 : Option Rv) (o3 o4 o5 o6 o7 o8 o9 o10 o11 o12 o13 o14 : Option D),
    ρ = [some (.d (.scr ns)), o1.map Rv.d, s2, o3.map Rv.d, o4.map Rv.d, o5.map Rv.d, o6.map Rv.d, o7.map Rv.d, o8.map Rv.d, o9.map Rv.d, o10.map Rv.d, o11.map Rv.d, o12.map Rv.d, o13.map Rv.d, o14.map Rv.d, none, none] ∧
      ((s2 = none ∧ G = []) ∨ (s2 = some (.r 0) ∧ ∃ u, G = [u])) ∧ (0 < i → s2 = some (.r 0) ∧ ∃ k, o1 = some (.int k)))
    (rangeD 0 m) 0 [some (.d (.scr ns)), none, none, none, none, none, none, none, none, none, none, none, none, none, none, none, none] [] ⟨none, none, none, none, none, none, none, none, none, none, none, none, none, none, rfl, .inl ⟨rfl, rfl⟩, by omega⟩ (fun j x ρ G hx hi => by
      obtain ⟨o1, s2, o3, o4, o5, o6, o7, o8, o9, o10, o11, o12, o13, o14, rfl, hs, _⟩ := hi
      have hj : j < m := by
        have := (List.getElem?_eq_some_iff.mp hx).1
        simpa [rangeD] using this
      have ex : x = .int ((j : Int)) := by
        unfold rangeD at hx
        rw [List.getElem?_map, List.getElem?_range hj] at hx
        rw [← Option.some.inj hx]
        show D.int (0 + (j : Int)) = _
        rw [Int.zero_add]
      subst ex
      obtain ⟨u, b0, e0⟩ := round_0 (n := n + 7) (ns := ns) (k := j) (o3 := o3) (o4 := o4) (o5 := o5) (o6 := o6) (o7 := o7) (o8 := o8) (o9 := o9) (o10 := o10) (o11 := o11) (o12 := o12) (o13 := o13) (o14 := o14) (by omega) hs
      obtain ⟨u1, big, a, b, b1, hA, hB, hB1, e1⟩ := round_1 (n := n) (ns := ns) (k := (j : Int)) (o3 := o3) (o4 := o4) (o5 := o5) (o6 := o6) (o7 := o7) (o8 := o8) (o9 := o9) (o10 := o10) (o11 := o11) (o12 := o12) (o13 := o13) (o14 := o14) b0
      obtain ⟨u2, c, d, sg, b2, e2⟩ := round_2 (n := n) (ns := ns) (k := (j : Int)) (big := big) (o8 := o8) (o9 := o9) (o10 := o10) (o11 := o11) (o12 := o12) (o13 := o13) (o14 := o14) b1 hA hB hB1
      obtain ⟨t', u3, jj, x, y, e3, b3⟩ := turns (n := n) (bb := lkb 0 []) (ns := ns) (k := (j : Int)) (big := big) (a := a) (b := b) (c := c) (d := d) (sg := sg) (t := textQ (Rat.divInt a b)) (told := ratD (Rat.divInt a b)) (other := ratD (Rat.divInt c d)) (o12 := o12) (o13 := o13) (o14 := o14) (text_asc _) (Nat.le_trans (text_small (by omega) (by omega) (by omega)) (by omega)) b2 (by omega)
      have e4 : eSs true (hd pg true (n + 8)) 0 s0_law_12 (envR ns (j : Int) (some (.int big)) (some (.int a)) (some (.int b)) (some (.str (textQ (Rat.divInt a b)))) (some (ratD (Rat.divInt a b))) (some (.int c)) (some (.int d)) (some (ratD (Rat.divInt c d))) (some (.int sg)) o12 o13 o14) [u2] =
          some (.nx, envT ns j big a b c d sg jj t' (ratD (Rat.divInt a b)) (ratD (Rat.divInt c d)) x y, [u3]) := by
        have i8 : i62 8 = true := by decide +kernel
        have n8 : (8 : Int).toNat = 8 := rfl
        unfold envR
        simp only [↓bind_ap, ↓ask_ap, ↓lift_ap, ↓sure_ap, pure_ap, stuck_ap, ↓cond_m, eX, eXs, eDs, eXo, eXt, eIt, eS, eSs, eHs, store, getV, fin, finD, asB, asI, Rv.frz, see, liftO, List.getElem?_cons_zero, List.getElem?_cons_succ, List.set_cons_zero, List.set_cons_succ, List.take_length, handed, start, List.map_cons, List.map_nil, List.length_cons, List.length_nil, List.replicate, List.cons_append, List.nil_append, List.append_nil, Nat.reduceAdd, Nat.reduceSub, hd_call, hd_cls, hd_exm, hd_has, s0_law_12, Option.map_some, i8, n8, ↓e3]
      refine ⟨_, _, _, rfl, (e0.trans (e1.trans (e2.trans e4))), some (.int (j : Int)), some (.r 0), some (.int big), some (.int a), some (.int b), some (.str t'), some (ratD (Rat.divInt a b)), some (.int c), some (.int d), some (ratD (Rat.divInt c d)), some (.int sg), some (.int jj), x, y, rfl, .inr ⟨rfl, u3, rfl⟩, fun _ => ⟨rfl, _, rfl⟩⟩)
  obtain ⟨o1, s2, o3, o4, o5, o6, o7, o8, o9, o10, o11, o12, o13, o14, rfl, hs, h3⟩ := h2
  by_cases h0 : 0 < m
  · obtain ⟨rfl, k, rfl⟩ := h3 (by simp [rangeD]; exact h0)
    refine ⟨_, G', k, o3, o4, o5, o6, o7, o8, o9, o10, o11, o12, o13, o14, h1, fun _ => ⟨rfl, ?_⟩⟩
    rcases hs with ⟨z, _⟩ | ⟨_, h⟩
    · cases z
    · exact h
  · exact ⟨_, G', 0, o3, o4, o5, o6, o7, o8, o9, o10, o11, o12, o13, o14, h1, fun h => absurd h h0⟩
/-! ### great numbers -/
def Nt : Nat := 10 ^ 300 + 3
def Nd : Nat := 2 * 10 ^ 280
def gq : Rat := Rat.divInt (Nt : Int) (Nd : Int)
theorem gq_num : gq.num = (Nt : Int) := by decide +kernel
theorem gq_den : gq.den = Nd := by decide +kernel
def tTop : Str := ("1" : Str) ++ (⟨(List.replicate (299 : Int).toNat ("0" : Str).cps.toList).flatten.toArray⟩ : Str) ++ ("3" : Str)
def tBot : Str := ("2" : Str) ++ (⟨(List.replicate (280 : Int).toNat ("0" : Str).cps.toList).flatten.toArray⟩ : Str)
theorem zeros (k : Nat) : (List.replicate k ("0" : Str).cps.toList).flatten = List.replicate k 48 := by
  rw [show ("0" : Str).cps.toList = [48] by decide +kernel]
  induction k with
  | zero => rfl
  | succ k ih => rw [List.replicate_succ, List.flatten_cons, ih]; rfl
theorem tl_top : tl tTop = 49 :: (List.replicate 299 48 ++ [51]) := by
  unfold tTop
  have e1 : tl ("1" : Str) = [49] := by decide +kernel
  have e3 : tl ("3" : Str) = [51] := by decide +kernel
  rw [tl_append, tl_append, e1, e3]
  show [49] ++ (List.replicate (299 : Int).toNat ("0" : Str).cps.toList).flatten ++ [51] = _
  rw [zeros]
  rfl
theorem tl_bot : tl tBot = 50 :: List.replicate 280 48 := by
  unfold tBot
  have e1 : tl ("2" : Str) = [50] := by decide +kernel
  rw [tl_append, e1]
  show [50] ++ (List.replicate (280 : Int).toNat ("0" : Str).cps.toList).flatten = _
  rw [zeros]
  rfl
theorem len_top : tTop.length = 301 := by rw [len_tl, tl_top]; simp
theorem len_bot : tBot.length = 281 := by rw [len_tl, tl_bot]; simp
theorem s_top : intText? tTop = some (Nt : Int) := by
  rw [int_val (by rw [tl_top]; decide +kernel) (by rw [len_top]; omega), tl_top]
  decide +kernel
theorem s_bot : intText? tBot = some (Nd : Int) := by
  rw [int_val (by rw [tl_bot]; decide +kernel) (by rw [len_bot]; omega), tl_bot]
  decide +kernel
end
end L4

set_option Elab.async false
set_option linter.all false
set_option maxRecDepth 100000
set_option maxHeartbeats 4000000
/-! The law answers true. -/
namespace L4
open PySem PySem.Spec PyProof.Rows L2 NumText TL
theorem gq_tq : Tq gq := ⟨by rw [gq_num]; decide +kernel, by rw [gq_den]; decide +kernel⟩
theorem gq_parts : (ofI gq.num).length ≤ 301 ∧ (ofI (gq.den : Int)).length ≤ 301 ∧ gq.den ≠ 1 := by
  refine ⟨?_, ?_, by rw [gq_den]; decide +kernel⟩
  · rw [len_tl, tl_ofI, gq_num]
    unfold iL
    rw [if_neg (by omega)]
    exact numL_len (by omega) (by decide +kernel)
  · rw [len_tl, tl_ofI, gq_den]
    unfold iL
    rw [if_neg (by omega)]
    exact numL_len (by omega) (by decide +kernel)
theorem gq_pl : PL (textQ gq) := by
  obtain ⟨h1, h2, h3⟩ := gq_parts
  rcases part_text gq with ⟨h, _⟩ | ⟨_, hp⟩
  · exact absurd h h3
  · refine ⟨?_, ?_, ?_⟩
    · rw [← text_app h3, len_app, len_app]
      exact Nat.le_trans (show (ofI gq.num).length + ("/" : Str).length + (ofI (gq.den : Int)).length ≤ 301 + 1 + 301 from Nat.add_le_add (Nat.add_le_add h1 (by decide +kernel)) h2) (by decide)
    · rw [hp]; show (ofI gq.num).length ≤ 570; omega
    · rw [hp]; show (ofI (gq.den : Int)).length ≤ 570; omega
theorem tl_zero : tl ("0" : Str) = [48] := by decide +kernel
theorem gq_pl0 : PL ("0" ++ textQ gq) := by
  obtain ⟨h1, h2, h3⟩ := gq_parts
  have e : ("0" : Str) ++ textQ gq = ("0" ++ ofI gq.num) ++ "/" ++ ofI (gq.den : Int) := by
    refine ext_tl ?_
    rw [← text_app h3]
    simp only [tl_append, List.append_assoc]
  have l0 : ("0" : Str).length = 1 := by decide +kernel
  have l1 : ("/" : Str).length = 1 := by decide +kernel
  have hp : Txt.partition ("0" ++ textQ gq) "/" = (("0" ++ ofI gq.num, "/", ofI (gq.den : Int)) : Str × Str × Str) := by
    rw [e]
    refine partition_app (s := 47) (S := []) tl_slash ?_
    rw [tl_append, tl_zero, tl_ofI]
    have := iL_free gq.num
    simp [this]
  refine ⟨?_, ?_, ?_⟩
  · rw [e, len_app, len_app, len_app, l0, l1]
    exact Nat.le_trans (show _ ≤ 700 by omega) (by decide)
  · rw [hp]; show (("0" : Str) ++ ofI gq.num).length ≤ 570; rw [len_app]; omega
  · rw [hp]; show (ofI (gq.den : Int)).length ≤ 570; omega
theorem iL_ne (i : Int) : iL i ≠ [] := by
  unfold iL
  split
  · simp
  · exact numL_ne _
/-- a text that begins with nought is that of nought -/
theorem text_nought {r : Rat} {l : List Nat} (h : tl (textQ r) = 48 :: l) : l = [] := by
  rw [tl_text] at h
  have key : ∀ m, iL r.num ++ m = 48 :: l → r.num = 0 ∧ iL r.num = [48] := fun m hm => by
    unfold iL at hm ⊢
    split at hm
    · have := (List.cons.inj hm).1
      omega
    · rename_i h0
      rw [if_neg h0]
      obtain ⟨c, t, e, hc⟩ := numL_head r.num.natAbs
      rw [e] at hm
      have : c = 48 := (List.cons.inj hm).1
      obtain ⟨h1, h2⟩ := hc this
      rw [e, this, h2]
      exact ⟨by omega, rfl⟩
  split at h
  · rw [← List.append_nil (iL r.num)] at h
    obtain ⟨_, h2⟩ := key _ h
    rw [h2] at h
    exact (List.cons.inj h).2.symm
  · rename_i hd
    obtain ⟨h1, _⟩ := key _ h
    have : r = 0 := Rat.num_eq_zero.mp h1
    rw [this] at hd
    exact absurd rfl hd
theorem no_gq0 : ∀ r, textQ r ≠ "0" ++ textQ gq := fun r e => by
  have h : tl (textQ r) = 48 :: tl (textQ gq) := by rw [e, tl_append, tl_zero]; rfl
  have := text_nought h
  rw [tl_text] at this
  split at this
  · exact iL_ne _ this
  · exact iL_ne _ (List.append_eq_nil_iff.mp this).1
theorem no_empty : ∀ r, textQ r ≠ "" := fun r e => by
  have h : tl (textQ r) = [] := by rw [e]; rfl
  rw [tl_text] at h
  split at h
  · exact iL_ne _ h
  · exact iL_ne _ (List.append_eq_nil_iff.mp h).1
theorem t43 : textQ (Rat.divInt 4 3) = "4/3" := by decide +kernel
section
variable {n : Nat} {ns : List Int} {G : Cs}
theorem end_1 {k T B : Int} {o3 o4 o5 o6 o7 o8 o9 o10 o11 o12 o13 o14 : Option D}
    (st : intText? (("1" : Str) ++ (⟨(List.replicate (299 : Int).toNat ("0" : Str).cps.toList).flatten.toArray⟩ : Str) ++ ("3" : Str)) = some T) (sb : intText? (("2" : Str) ++ (⟨(List.replicate (280 : Int).toNat ("0" : Str).cps.toList).flatten.toArray⟩ : Str)) = some B)
    (q7 : decide (("1" : Str).length + (⟨(List.replicate (299 : Int).toNat ("0" : Str).cps.toList).flatten.toArray⟩ : Str).length ≤ line) = true)
    (q8 : decide ((("1" : Str) ++ (⟨(List.replicate (299 : Int).toNat ("0" : Str).cps.toList).flatten.toArray⟩ : Str)).length + ("3" : Str).length ≤ line) = true)
    (q9 : decide (("2" : Str).length + (⟨(List.replicate (280 : Int).toNat ("0" : Str).cps.toList).flatten.toArray⟩ : Str).length ≤ line) = true)
    (q10 : decide ((("1" : Str) ++ (⟨(List.replicate (299 : Int).toNat ("0" : Str).cps.toList).flatten.toArray⟩ : Str) ++ ("3" : Str)).length ≤ 640) = true)
    (q11 : decide ((("2" : Str) ++ (⟨(List.replicate (280 : Int).toNat ("0" : Str).cps.toList).flatten.toArray⟩ : Str)).length ≤ 640) = true) :
    eSs true (hd pg true n) 0 b_law_1 (envR ns k o3 o4 o5 o6 o7 o8 o9 o10 o11 o12 o13 o14) G = eSs true (hd pg true n) 0 b_law_2 [some (.d (.scr ns)), some (.d (.int k)), some (.r 0), o3.map Rv.d, o4.map Rv.d, o5.map Rv.d, o6.map Rv.d, o7.map Rv.d, o8.map Rv.d, o9.map Rv.d, o10.map Rv.d, o11.map Rv.d, o12.map Rv.d, o13.map Rv.d, o14.map Rv.d, some (.d (.int T)), some (.d (.int B))] G := by
  have q1 : decide ((2 : Int) ≤ 299) = true := by decide
  have q2 : decide ((299 : Int) ≤ 1000) = true := by decide
  have q3 : decide ((2 : Int) ≤ 280) = true := by decide
  have q4 : decide ((280 : Int) ≤ 1000) = true := by decide
  have q5 : decide (("0" : Str).length ≤ 1000) = true := by decide +kernel
  have q6 : decide (("0" : Str).length ≠ 0) = true := by decide +kernel
  unfold envR
  simp only [↓bind_ap, ↓ask_ap, ↓lift_ap, ↓sure_ap, pure_ap, stuck_ap, ↓cond_m, eX, eXs, eDs, eXo, eXt, eIt, eS, eSs, eHs, store, getV, fin, finD, asB, asI, Rv.frz, see, liftO, List.getElem?_cons_zero, List.getElem?_cons_succ, List.set_cons_zero, List.set_cons_succ, List.take_length, handed, start, List.map_cons, List.map_nil, List.length_cons, List.length_nil, List.replicate, List.cons_append, List.nil_append, List.append_nil, Nat.reduceAdd, Nat.reduceSub, hd_call, hd_cls, hd_exm, hd_has, b_law_1, parK, setAll, eBlt, List.mapM_cons, List.mapM_nil, Option.pure_def, Option.bind_eq_bind, Option.bind_some, Option.map_some, bltD, bltI, eBin, binD, askO, q1, q2, q3, q4, q5, q6, q7, q8, q9, q10, q11, Bool.and_self, st, sb]
theorem end_2 {k T B : Int} {g g43 : Rat} {t : Str} {o3 o4 o5 o6 o7 o8 o9 o10 o11 o12 o13 o14 : Option D}
    (k1 : call pg true (n + 8) (.g "_law_word") [.d (.int T), .d (.int B)] G = some (.ok (.d (.str t)), G)) (k2 : call pg true (n + 8) (.k "Ratio") [.d (.int T), .d (.int B)] G = some (.ok (.n (ratD g)), G))
    (k3 : call pg true (n + 8) (.m "Ratio" "text") [.d (ratD g)] G = some (.ok (.d (.str t)), G)) (k4 : call pg true (n + 8) (.g "_law_told") [.d (.str t)] G = some (.ok (.n (ratD g)), G))
    (k5 : eCmp (hd pg true (n + 8)) .NotEq (.d (ratD g)) (.d (ratD g)) G = some (.ok (.d (.bool false)), G)) (k6 : call pg true (n + 8) (.g "_law_told") [.d (.str ("0" ++ t))] G = some (.ok (.d .non), G))
    (k7 : call pg true (n + 8) (.g "_law_told") [.d (.str "")] G = some (.ok (.d .non), G)) (k8 : call pg true (n + 8) (.g "_law_told") [.d (.str "4/3")] G = some (.ok (.n (ratD g43)), G))
    (k9 : call pg true (n + 8) (.k "Ratio") [.d (.int 4), .d (.int 3)] G = some (.ok (.n (ratD g43)), G)) (k10 : eCmp (hd pg true (n + 8)) .Eq (.d (ratD g43)) (.d (ratD g43)) G = some (.ok (.d (.bool true)), G))
    (q12 : decide (("0" : Str).length + t.length ≤ line) = true) :
    eSs true (hd pg true (n + 8)) 0 b_law_2 [some (.d (.scr ns)), some (.d (.int k)), some (.r 0), o3.map Rv.d, o4.map Rv.d, o5.map Rv.d, o6.map Rv.d, o7.map Rv.d, o8.map Rv.d, o9.map Rv.d, o10.map Rv.d, o11.map Rv.d, o12.map Rv.d, o13.map Rv.d, o14.map Rv.d, some (.d (.int T)), some (.d (.int B))] G =
      some (.ret (.d (.bool true)), [some (.d (.scr ns)), some (.d (.int k)), some (.r 0), o3.map Rv.d, o4.map Rv.d, o5.map Rv.d, some (.d (.str t)), o7.map Rv.d, o8.map Rv.d, o9.map Rv.d, o10.map Rv.d, o11.map Rv.d, o12.map Rv.d, o13.map Rv.d, o14.map Rv.d, some (.d (.int T)), some (.d (.int B))], G) := by
  simp only [↓bind_ap, ↓ask_ap, ↓lift_ap, ↓sure_ap, pure_ap, stuck_ap, ↓cond_m, eX, eXs, eDs, eXo, eXt, eIt, eS, eSs, eHs, store, getV, fin, finD, asB, asI, Rv.frz, see, liftO, List.getElem?_cons_zero, List.getElem?_cons_succ, List.set_cons_zero, List.set_cons_succ, List.take_length, handed, start, List.map_cons, List.map_nil, List.length_cons, List.length_nil, List.replicate, List.cons_append, List.nil_append, List.append_nil, Nat.reduceAdd, Nat.reduceSub, hd_call, hd_cls, hd_exm, hd_has, b_law_2, b_law_3, b_law_4, eBin, binD, askO, q12, k1, k2, newOf, kind_text rp, mu_text, met_rat, k3, ↓ne_str, k4, ↓k5, k6, ↓isnot_non, k7, ↓is_non, k8, k9, ↓k10]
theorem nd_pos : (0 : Int) < (Nd : Int) := by decide +kernel
theorem nd_small : (Nd : Int).natAbs < 2 ^ 8000 := by decide +kernel
theorem g_word : call pg true (n + 8) (.g "_law_word") [.d (.int (Nt : Int)), .d (.int (Nd : Int))] G = some (.ok (.d (.str (textQ gq))), G) := c_word (n := n + 7) (G := G) (Nt : Int) (Nd : Int) nd_pos nd_small gq_tq
theorem g_mk : call pg true (n + 8) (.k "Ratio") [.d (.int (Nt : Int)), .d (.int (Nd : Int))] G = some (.ok (.n (ratD gq)), G) := c_mk (n := n + 6) (G := G) rp (Nt : Int) (Nd : Int) (Int.ne_of_gt nd_pos) (szQ_of nd_small (Int.ne_of_gt nd_pos))
theorem ne_self {g : Rat} : eCmp (hd pg true (n + 8)) .NotEq (.d (ratD g)) (.d (ratD g)) G = some (.ok (.d (.bool false)), G) := by
  rw [cmp_rat rp (nm := "__eq__") (pos := false) rfl rfl (c_eqR (n := n + 6) rp), decide_eq_true rfl]
  rfl
theorem eq_self' {g : Rat} : eCmp (hd pg true (n + 8)) .Eq (.d (ratD g)) (.d (ratD g)) G = some (.ok (.d (.bool true)), G) := by
  rw [cmp_rat rp (nm := "__eq__") (pos := true) rfl rfl (c_eqR (n := n + 6) rp), decide_eq_true rfl]
  rfl
theorem e43_1 : call pg true (n + 8) (.g "_law_told") [.d (.str "4/3")] G = some (.ok (.n (ratD (Rat.divInt 4 3))), G) := by
  have k8 := c_told_ok (n := n + 2) (G := G) (r := Rat.divInt 4 3) (by rw [t43]; exact pl_of (by decide +kernel))
  rw [t43] at k8
  exact k8
theorem e43_2 : call pg true (n + 8) (.k "Ratio") [.d (.int 4), .d (.int 3)] G = some (.ok (.n (ratD (Rat.divInt 4 3))), G) := c_mk (n := n + 6) (G := G) rp 4 3 (by decide) (szQ_of (by decide +kernel) (by decide))
theorem law_end {k : Int} {o3 o4 o5 o6 o7 o8 o9 o10 o11 o12 o13 o14 : Option D} : ∃ ρ', eSs true (hd pg true (n + 8)) 0 b_law_1 (envR ns k o3 o4 o5 o6 o7 o8 o9 o10 o11 o12 o13 o14) G = some (.ret (.d (.bool true)), ρ', G) := by
  have st := s_top
  have sb := s_bot
  have lt := len_top
  have lb := len_bot
  unfold tTop at st lt
  unfold tBot at sb lb
  have e3 : ("3" : Str).length = 1 := by decide +kernel
  have f1 : (("1" : Str) ++ (⟨(List.replicate (299 : Int).toNat ("0" : Str).cps.toList).flatten.toArray⟩ : Str)).length = 300 := by
    rw [len_app, e3] at lt
    omega
  have l2 : 302 ≤ line := by decide
  refine ⟨_, (end_1 st sb (decide_eq_true ?_) (decide_eq_true ?_) (decide_eq_true ?_) (decide_eq_true ?_) (decide_eq_true ?_)).trans (end_2 g_word g_mk (c_text (n := n + 6) rp gq_tq) (c_told_ok (n := n + 2) gq_pl) ne_self (c_told_bad (n := n + 2) gq_pl0 no_gq0) (c_told_bad (n := n + 2) (s := "") (pl_of (by decide)) no_empty) e43_1 e43_2 eq_self' (decide_eq_true ?_))⟩
  · rw [← len_app, f1]; omega
  · rw [f1, e3]; omega
  · rw [← len_app, lb]; omega
  · rw [lt]; omega
  · rw [lb]; omega
  · rw [← len_app]
    exact gq_pl0.l
theorem law_true (hl : ns.length ≤ 63) : ∃ Gz, runF true (hd pg true (n + 8)) fd_law [.d (.scr ns)] [] = some (.ok (.d (.bool true)), Gz) := by
  obtain ⟨m, hm, hm1, hm2⟩ : ∃ m : Nat, (if (if (ns.length : Int) < 10 then (ns.length : Int) else 10) > 2 then (if (ns.length : Int) < 10 then (ns.length : Int) else 10) else 2) = (m : Int) ∧ 0 < m ∧ m ≤ 10 := by
    by_cases h1 : (ns.length : Int) < 10
    · by_cases h2 : (ns.length : Int) > 2
      · exact ⟨ns.length, by rw [if_pos h1, if_pos h2], by omega, by omega⟩
      · exact ⟨2, by rw [if_pos h1, if_neg h2]; rfl, by omega, by omega⟩
    · exact ⟨10, by rw [if_neg h1, if_pos (by decide)]; rfl, by omega, by omega⟩
  obtain ⟨ρ', G', k, o3, o4, o5, o6, o7, o8, o9, o10, o11, o12, o13, o14, h1, h2⟩ := rounds (n := n) (ns := ns) m hm2
  obtain ⟨rfl, u, rfl⟩ := h2 hm1
  obtain ⟨ρ2, h3⟩ := law_end (n := n) (ns := ns) (G := [u]) (k := k) (o3 := o3) (o4 := o4) (o5 := o5) (o6 := o6) (o7 := o7) (o8 := o8) (o9 := o9) (o10 := o10) (o11 := o11) (o12 := o12) (o13 := o13) (o14 := o14)
  have i1 : i62 (m : Int) = true := by
    unfold i62
    rw [decide_eq_true (by omega), decide_eq_true (by omega)]
    rfl
  refine ⟨[], ?_⟩
  simp only [↓bind_ap, ↓ask_ap, ↓lift_ap, ↓sure_ap, pure_ap, stuck_ap, ↓cond_m, eX, eXs, eDs, eXo, eXt, eIt, eS, eSs, eHs, store, getV, fin, finD, asB, asI, Rv.frz, see, liftO, List.getElem?_cons_zero, List.getElem?_cons_succ, List.set_cons_zero, List.set_cons_succ, List.take_length, handed, start, List.map_cons, List.map_nil, List.length_cons, List.length_nil, List.replicate, List.cons_append, List.nil_append, List.append_nil, Nat.reduceAdd, Nat.reduceSub, hd_call, hd_cls, hd_exm, hd_has, runF, fd_law, b_law, eBlt, List.mapM_cons, List.mapM_nil, Option.pure_def, Option.bind_eq_bind, Option.bind_some, Option.map_some, bltD, lenD, hm, i1, Int.toNat_natCast, lkb, ↓h1, h3, List.take_zero]
end
end L4
open PySem PySem.W PySem.Calls PyProof.Rows

set_option Elab.async false
set_option linter.all false
set_option maxRecDepth 100000
set_option maxHeartbeats 0
/-! The defs, the errors, the top's one run. -/
namespace L4
open PySem PySem.Spec PyProof.Rows L2 He
abbrev d_ByZero___init__ : Stmt := inClass (top 2) 0
abbrev d_BadText___init__ : Stmt := inClass (top 3) 0
abbrev d_BadNumber___init__ : Stmt := inClass (top 4) 0
theorem sc_is_integer : FnScope ["value"] ["value"] (defScope d_is_integer) := ⟨rfl, rfl, rfl, by decide +kernel, rfl, by decide +kernel, by decide +kernel⟩
theorem sc_is_number : FnScope ["value"] ["value"] (defScope d_is_number) := ⟨rfl, rfl, rfl, by decide +kernel, rfl, by decide +kernel, by decide +kernel⟩
theorem sc_common_divisor : FnScope ["one", "other"] ["one", "other"] (defScope d_common_divisor) := ⟨rfl, rfl, rfl, by decide +kernel, rfl, by decide +kernel, by decide +kernel⟩
theorem sc_Ratio___init__ : FnScope ["self", "top", "bottom", "divisor"] ["self", "top", "bottom"] (defScope d_Ratio___init__) := ⟨rfl, rfl, rfl, by decide +kernel, rfl, by decide +kernel, by decide +kernel⟩
theorem sc_Ratio_top : FnScope ["self"] ["self"] (defScope d_Ratio_top) := ⟨rfl, rfl, rfl, by decide +kernel, rfl, by decide +kernel, by decide +kernel⟩
theorem sc_Ratio_bottom : FnScope ["self"] ["self"] (defScope d_Ratio_bottom) := ⟨rfl, rfl, rfl, by decide +kernel, rfl, by decide +kernel, by decide +kernel⟩
theorem sc_Ratio___add__ : FnScope ["self", "number", "other"] ["self", "number"] (defScope d_Ratio___add__) := ⟨rfl, rfl, rfl, by decide +kernel, rfl, by decide +kernel, by decide +kernel⟩
theorem sc_Ratio___sub__ : FnScope ["self", "number", "other"] ["self", "number"] (defScope d_Ratio___sub__) := ⟨rfl, rfl, rfl, by decide +kernel, rfl, by decide +kernel, by decide +kernel⟩
theorem sc_Ratio___mul__ : FnScope ["self", "number", "other"] ["self", "number"] (defScope d_Ratio___mul__) := ⟨rfl, rfl, rfl, by decide +kernel, rfl, by decide +kernel, by decide +kernel⟩
theorem sc_Ratio___neg__ : FnScope ["self"] ["self"] (defScope d_Ratio___neg__) := ⟨rfl, rfl, rfl, by decide +kernel, rfl, by decide +kernel, by decide +kernel⟩
theorem sc_Ratio___eq__ : FnScope ["self", "other"] ["self", "other"] (defScope d_Ratio___eq__) := ⟨rfl, rfl, rfl, by decide +kernel, rfl, by decide +kernel, by decide +kernel⟩
theorem sc_Ratio___lt__ : FnScope ["self", "number", "other"] ["self", "number"] (defScope d_Ratio___lt__) := ⟨rfl, rfl, rfl, by decide +kernel, rfl, by decide +kernel, by decide +kernel⟩
theorem sc_Ratio___le__ : FnScope ["self", "number", "other"] ["self", "number"] (defScope d_Ratio___le__) := ⟨rfl, rfl, rfl, by decide +kernel, rfl, by decide +kernel, by decide +kernel⟩
theorem sc_Ratio_over : FnScope ["self", "number", "other"] ["self", "number"] (defScope d_Ratio_over) := ⟨rfl, rfl, rfl, by decide +kernel, rfl, by decide +kernel, by decide +kernel⟩
theorem sc_Ratio_text : FnScope ["self"] ["self"] (defScope d_Ratio_text) := ⟨rfl, rfl, rfl, by decide +kernel, rfl, by decide +kernel, by decide +kernel⟩
theorem sc_Ratio_read : FnScope ["cls", "text", "top", "slash", "bottom", "under"] ["cls", "text"] (defScope d_Ratio_read) := ⟨rfl, rfl, rfl, by decide +kernel, rfl, by decide +kernel, by decide +kernel⟩
theorem sc_is_whole : FnScope ["word", "sign"] ["word"] (defScope d_is_whole) := ⟨rfl, rfl, rfl, by decide +kernel, rfl, by decide +kernel, by decide +kernel⟩
theorem sc_as_ratio : FnScope ["given"] ["given"] (defScope d_as_ratio) := ⟨rfl, rfl, rfl, by decide +kernel, rfl, by decide +kernel, by decide +kernel⟩
theorem sc__law_box : FnScope ["_law_script", "_law_k", "_law_cell"] ["_law_script", "_law_k"] (defScope d__law_box) := ⟨rfl, rfl, rfl, by decide +kernel, rfl, by decide +kernel, by decide +kernel⟩
theorem sc__law_take : FnScope ["_law_box_here", "_law_many", "_law_digit", "_law_blend"] ["_law_box_here", "_law_many"] (defScope d__law_take) := ⟨rfl, rfl, rfl, by decide +kernel, rfl, by decide +kernel, by decide +kernel⟩
theorem sc__law_word : FnScope ["_law_top", "_law_under", "_law_one", "_law_other"] ["_law_top", "_law_under"] (defScope d__law_word) := ⟨rfl, rfl, rfl, by decide +kernel, rfl, by decide +kernel, by decide +kernel⟩
theorem sc__law_is_number : FnScope ["_law_word_here", "_law_parts", "_law_head", "_law_part", "_law_sign"] ["_law_word_here"] (defScope d__law_is_number) := ⟨rfl, rfl, rfl, by decide +kernel, rfl, by decide +kernel, by decide +kernel⟩
theorem sc__law_bent : FnScope ["_law_box_here", "_law_text", "_law_at", "_law_sign", "_law_way"] ["_law_box_here", "_law_text"] (defScope d__law_bent) := ⟨rfl, rfl, rfl, by decide +kernel, rfl, by decide +kernel, by decide +kernel⟩
theorem sc__law_told : FnScope ["_law_text"] ["_law_text"] (defScope d__law_told) := ⟨rfl, rfl, rfl, by decide +kernel, rfl, by decide +kernel, by decide +kernel⟩
theorem sc_law : FnScope ["_law_script", "_law_k", "_law_box_here", "_law_big", "_law_a", "_law_b", "_law_text", "_law_told_here", "_law_c", "_law_d", "_law_other", "_law_sign", "_law_turn", "_law_some", "_law_found", "_law_top", "_law_bottom"] ["_law_script"] (defScope d_law) := ⟨rfl, rfl, rfl, by decide +kernel, rfl, by decide +kernel, by decide +kernel⟩
theorem sc_ByZero___init__ : FnScope ["self"] ["self"] (defScope d_ByZero___init__) := ⟨rfl, rfl, rfl, by decide +kernel, rfl, by decide +kernel, by decide +kernel⟩
theorem sc_BadText___init__ : FnScope ["self"] ["self"] (defScope d_BadText___init__) := ⟨rfl, rfl, rfl, by decide +kernel, rfl, by decide +kernel, by decide +kernel⟩
theorem sc_BadNumber___init__ : FnScope ["self", "given"] ["self", "given"] (defScope d_BadNumber___init__) := ⟨rfl, rfl, rfl, by decide +kernel, rfl, by decide +kernel, by decide +kernel⟩
def dfs : List Df := ([⟨(.g "is_integer"), "is_integer", "is_integer", defArgs d_is_integer, defBody d_is_integer, defScope d_is_integer, []⟩,
  ⟨(.g "is_number"), "is_number", "is_number", defArgs d_is_number, defBody d_is_number, defScope d_is_number, []⟩,
  ⟨(.g "common_divisor"), "common_divisor", "common_divisor", defArgs d_common_divisor, defBody d_common_divisor, defScope d_common_divisor, []⟩,
  ⟨(.k "Ratio"), "__init__", "Ratio.__init__", defArgs d_Ratio___init__, defBody d_Ratio___init__, defScope d_Ratio___init__, [.int 1]⟩,
  ⟨(.p "Ratio" "top"), "top", "Ratio.top", defArgs d_Ratio_top, defBody d_Ratio_top, defScope d_Ratio_top, []⟩,
  ⟨(.p "Ratio" "bottom"), "bottom", "Ratio.bottom", defArgs d_Ratio_bottom, defBody d_Ratio_bottom, defScope d_Ratio_bottom, []⟩,
  ⟨(.m "Ratio" "__add__"), "__add__", "Ratio.__add__", defArgs d_Ratio___add__, defBody d_Ratio___add__, defScope d_Ratio___add__, []⟩,
  ⟨(.m "Ratio" "__sub__"), "__sub__", "Ratio.__sub__", defArgs d_Ratio___sub__, defBody d_Ratio___sub__, defScope d_Ratio___sub__, []⟩,
  ⟨(.m "Ratio" "__mul__"), "__mul__", "Ratio.__mul__", defArgs d_Ratio___mul__, defBody d_Ratio___mul__, defScope d_Ratio___mul__, []⟩,
  ⟨(.m "Ratio" "__neg__"), "__neg__", "Ratio.__neg__", defArgs d_Ratio___neg__, defBody d_Ratio___neg__, defScope d_Ratio___neg__, []⟩,
  ⟨(.m "Ratio" "__eq__"), "__eq__", "Ratio.__eq__", defArgs d_Ratio___eq__, defBody d_Ratio___eq__, defScope d_Ratio___eq__, []⟩,
  ⟨(.m "Ratio" "__lt__"), "__lt__", "Ratio.__lt__", defArgs d_Ratio___lt__, defBody d_Ratio___lt__, defScope d_Ratio___lt__, []⟩,
  ⟨(.m "Ratio" "__le__"), "__le__", "Ratio.__le__", defArgs d_Ratio___le__, defBody d_Ratio___le__, defScope d_Ratio___le__, []⟩,
  ⟨(.m "Ratio" "over"), "over", "Ratio.over", defArgs d_Ratio_over, defBody d_Ratio_over, defScope d_Ratio_over, []⟩,
  ⟨(.m "Ratio" "text"), "text", "Ratio.text", defArgs d_Ratio_text, defBody d_Ratio_text, defScope d_Ratio_text, []⟩,
  ⟨(.c "Ratio" "read"), "read", "Ratio.read", defArgs d_Ratio_read, defBody d_Ratio_read, defScope d_Ratio_read, []⟩,
  ⟨(.g "is_whole"), "is_whole", "is_whole", defArgs d_is_whole, defBody d_is_whole, defScope d_is_whole, []⟩,
  ⟨(.g "as_ratio"), "as_ratio", "as_ratio", defArgs d_as_ratio, defBody d_as_ratio, defScope d_as_ratio, []⟩,
  ⟨(.g "_law_box"), "_law_box", "_law_box", defArgs d__law_box, defBody d__law_box, defScope d__law_box, []⟩,
  ⟨(.g "_law_take"), "_law_take", "_law_take", defArgs d__law_take, defBody d__law_take, defScope d__law_take, []⟩,
  ⟨(.g "_law_word"), "_law_word", "_law_word", defArgs d__law_word, defBody d__law_word, defScope d__law_word, []⟩,
  ⟨(.g "_law_is_number"), "_law_is_number", "_law_is_number", defArgs d__law_is_number, defBody d__law_is_number, defScope d__law_is_number, []⟩,
  ⟨(.g "_law_bent"), "_law_bent", "_law_bent", defArgs d__law_bent, defBody d__law_bent, defScope d__law_bent, []⟩,
  ⟨(.g "_law_told"), "_law_told", "_law_told", defArgs d__law_told, defBody d__law_told, defScope d__law_told, []⟩,
  ⟨(.g "law"), "law", "law", defArgs d_law, defBody d_law, defScope d_law, []⟩,
  ⟨(.k "ByZero"), "__init__", "ByZero.__init__", defArgs d_ByZero___init__, defBody d_ByZero___init__, defScope d_ByZero___init__, []⟩,
  ⟨(.k "BadText"), "__init__", "BadText.__init__", defArgs d_BadText___init__, defBody d_BadText___init__, defScope d_BadText___init__, []⟩,
  ⟨(.k "BadNumber"), "__init__", "BadNumber.__init__", defArgs d_BadNumber___init__, defBody d_BadNumber___init__, defScope d_BadNumber___init__, []⟩] : List Df)
section
variable {K : PySem.W.Frag} {mg : Str → Option Value} {h : Heap}
theorem dr_is_integer (T : TF src dfs K mg h) : DefR K tb (.g "is_integer") fd_is_integer := by
  obtain ⟨fd, Fd⟩ := T.c.def_ 0
  have hb : Binds K fd ["value"] [] := Fd.bindsN fun _ _ _ _ _ _ us hl => match us, hl with | [_], _ => rfl
  exact ⟨_, _, _, _, _, _, _, fd, ["value"], ["value"], [], [], Fd, sc_is_integer, rfl, rfl, ck_is_integer, hb, hb, .nil, fun F => rfl⟩
theorem dr_is_number (T : TF src dfs K mg h) : DefR K tb (.g "is_number") fd_is_number := by
  obtain ⟨fd, Fd⟩ := T.c.def_ 1
  have hb : Binds K fd ["value"] [] := Fd.bindsN fun _ _ _ _ _ _ us hl => match us, hl with | [_], _ => rfl
  exact ⟨_, _, _, _, _, _, _, fd, ["value"], ["value"], [], [], Fd, sc_is_number, rfl, rfl, ck_is_number, hb, hb, .nil, fun F => rfl⟩
theorem dr_common_divisor (T : TF src dfs K mg h) : DefR K tb (.g "common_divisor") fd_common_divisor := by
  obtain ⟨fd, Fd⟩ := T.c.def_ 2
  have hb : Binds K fd ["one", "other"] [] := Fd.bindsN fun _ _ _ _ _ _ us hl => match us, hl with | [_, _], _ => rfl
  exact ⟨_, _, _, _, _, _, _, fd, ["one", "other"], ["one", "other"], [], [], Fd, sc_common_divisor, rfl, rfl, ck_common_divisor, hb, hb, .nil, fun F => rfl⟩
theorem dr_Ratio___init__ (T : TF src dfs K mg h) : DefR K tb (.k "Ratio") fd_Ratio___init__ := by
  obtain ⟨fd, Fd⟩ := T.c.def_ 3
  obtain ⟨ds, vd, hb⟩ := Fd.binds1 (ps := ["self", "top", "bottom"]) 2 0 (by simp [Df.dvs]) rfl fun _ _ _ _ _ _ _ us its h1 h2 => match us, its, h1, h2 with | [_, _], [_], _, _ => ⟨_, rfl, rfl⟩
  obtain ⟨ds0, vd0, hb0⟩ := Fd.binds1 (ps := ["self", "top", "bottom"]) 3 1 (by simp [Df.dvs]) rfl fun _ _ _ _ _ _ _ us its h1 h2 => match us, its, h1, h2 with | [_, _, _], [_], _, _ => ⟨_, rfl, rfl⟩
  have e0 : ds0 = [] := by cases vd0; rfl
  subst e0
  exact ⟨_, _, _, _, _, _, _, fd, ["self", "top", "bottom", "divisor"], ["self", "top", "bottom"], _, ds, Fd, sc_Ratio___init__, rfl, rfl, ck_Ratio___init__, hb0, hb, vd, fun F => ⟨_, _, rfl, rfl, rfl⟩⟩
theorem dr_Ratio_top (T : TF src dfs K mg h) : DefR K tb (.p "Ratio" "top") fd_Ratio_top := by
  obtain ⟨fd, Fd⟩ := T.c.def_ 4
  have hb : Binds K fd ["self"] [] := Fd.bindsN fun _ _ _ _ _ _ us hl => match us, hl with | [_], _ => rfl
  exact ⟨_, _, _, _, _, _, _, fd, ["self"], ["self"], [], [], Fd, sc_Ratio_top, rfl, rfl, ck_Ratio_top, hb, hb, .nil, fun F => rfl⟩
theorem dr_Ratio_bottom (T : TF src dfs K mg h) : DefR K tb (.p "Ratio" "bottom") fd_Ratio_bottom := by
  obtain ⟨fd, Fd⟩ := T.c.def_ 5
  have hb : Binds K fd ["self"] [] := Fd.bindsN fun _ _ _ _ _ _ us hl => match us, hl with | [_], _ => rfl
  exact ⟨_, _, _, _, _, _, _, fd, ["self"], ["self"], [], [], Fd, sc_Ratio_bottom, rfl, rfl, ck_Ratio_bottom, hb, hb, .nil, fun F => rfl⟩
theorem dr_Ratio___add__ (T : TF src dfs K mg h) : DefR K tb (.m "Ratio" "__add__") fd_Ratio___add__ := by
  obtain ⟨fd, Fd⟩ := T.c.def_ 6
  have hb : Binds K fd ["self", "number"] [] := Fd.bindsN fun _ _ _ _ _ _ us hl => match us, hl with | [_, _], _ => rfl
  exact ⟨_, _, _, _, _, _, _, fd, ["self", "number", "other"], ["self", "number"], [], [], Fd, sc_Ratio___add__, rfl, rfl, ck_Ratio___add__, hb, hb, .nil, fun F => rfl⟩
theorem dr_Ratio___sub__ (T : TF src dfs K mg h) : DefR K tb (.m "Ratio" "__sub__") fd_Ratio___sub__ := by
  obtain ⟨fd, Fd⟩ := T.c.def_ 7
  have hb : Binds K fd ["self", "number"] [] := Fd.bindsN fun _ _ _ _ _ _ us hl => match us, hl with | [_, _], _ => rfl
  exact ⟨_, _, _, _, _, _, _, fd, ["self", "number", "other"], ["self", "number"], [], [], Fd, sc_Ratio___sub__, rfl, rfl, ck_Ratio___sub__, hb, hb, .nil, fun F => rfl⟩
theorem dr_Ratio___mul__ (T : TF src dfs K mg h) : DefR K tb (.m "Ratio" "__mul__") fd_Ratio___mul__ := by
  obtain ⟨fd, Fd⟩ := T.c.def_ 8
  have hb : Binds K fd ["self", "number"] [] := Fd.bindsN fun _ _ _ _ _ _ us hl => match us, hl with | [_, _], _ => rfl
  exact ⟨_, _, _, _, _, _, _, fd, ["self", "number", "other"], ["self", "number"], [], [], Fd, sc_Ratio___mul__, rfl, rfl, ck_Ratio___mul__, hb, hb, .nil, fun F => rfl⟩
theorem dr_Ratio___neg__ (T : TF src dfs K mg h) : DefR K tb (.m "Ratio" "__neg__") fd_Ratio___neg__ := by
  obtain ⟨fd, Fd⟩ := T.c.def_ 9
  have hb : Binds K fd ["self"] [] := Fd.bindsN fun _ _ _ _ _ _ us hl => match us, hl with | [_], _ => rfl
  exact ⟨_, _, _, _, _, _, _, fd, ["self"], ["self"], [], [], Fd, sc_Ratio___neg__, rfl, rfl, ck_Ratio___neg__, hb, hb, .nil, fun F => rfl⟩
theorem dr_Ratio___eq__ (T : TF src dfs K mg h) : DefR K tb (.m "Ratio" "__eq__") fd_Ratio___eq__ := by
  obtain ⟨fd, Fd⟩ := T.c.def_ 10
  have hb : Binds K fd ["self", "other"] [] := Fd.bindsN fun _ _ _ _ _ _ us hl => match us, hl with | [_, _], _ => rfl
  exact ⟨_, _, _, _, _, _, _, fd, ["self", "other"], ["self", "other"], [], [], Fd, sc_Ratio___eq__, rfl, rfl, ck_Ratio___eq__, hb, hb, .nil, fun F => rfl⟩
theorem dr_Ratio___lt__ (T : TF src dfs K mg h) : DefR K tb (.m "Ratio" "__lt__") fd_Ratio___lt__ := by
  obtain ⟨fd, Fd⟩ := T.c.def_ 11
  have hb : Binds K fd ["self", "number"] [] := Fd.bindsN fun _ _ _ _ _ _ us hl => match us, hl with | [_, _], _ => rfl
  exact ⟨_, _, _, _, _, _, _, fd, ["self", "number", "other"], ["self", "number"], [], [], Fd, sc_Ratio___lt__, rfl, rfl, ck_Ratio___lt__, hb, hb, .nil, fun F => rfl⟩
theorem dr_Ratio___le__ (T : TF src dfs K mg h) : DefR K tb (.m "Ratio" "__le__") fd_Ratio___le__ := by
  obtain ⟨fd, Fd⟩ := T.c.def_ 12
  have hb : Binds K fd ["self", "number"] [] := Fd.bindsN fun _ _ _ _ _ _ us hl => match us, hl with | [_, _], _ => rfl
  exact ⟨_, _, _, _, _, _, _, fd, ["self", "number", "other"], ["self", "number"], [], [], Fd, sc_Ratio___le__, rfl, rfl, ck_Ratio___le__, hb, hb, .nil, fun F => rfl⟩
theorem dr_Ratio_over (T : TF src dfs K mg h) : DefR K tb (.m "Ratio" "over") fd_Ratio_over := by
  obtain ⟨fd, Fd⟩ := T.c.def_ 13
  have hb : Binds K fd ["self", "number"] [] := Fd.bindsN fun _ _ _ _ _ _ us hl => match us, hl with | [_, _], _ => rfl
  exact ⟨_, _, _, _, _, _, _, fd, ["self", "number", "other"], ["self", "number"], [], [], Fd, sc_Ratio_over, rfl, rfl, ck_Ratio_over, hb, hb, .nil, fun F => rfl⟩
theorem dr_Ratio_text (T : TF src dfs K mg h) : DefR K tb (.m "Ratio" "text") fd_Ratio_text := by
  obtain ⟨fd, Fd⟩ := T.c.def_ 14
  have hb : Binds K fd ["self"] [] := Fd.bindsN fun _ _ _ _ _ _ us hl => match us, hl with | [_], _ => rfl
  exact ⟨_, _, _, _, _, _, _, fd, ["self"], ["self"], [], [], Fd, sc_Ratio_text, rfl, rfl, ck_Ratio_text, hb, hb, .nil, fun F => rfl⟩
theorem dr_Ratio_read (T : TF src dfs K mg h) : DefR K tb (.c "Ratio" "read") fd_Ratio_read := by
  obtain ⟨fd, Fd⟩ := T.c.def_ 15
  have hb : Binds K fd ["cls", "text"] [] := Fd.bindsN fun _ _ _ _ _ _ us hl => match us, hl with | [_, _], _ => rfl
  exact ⟨_, _, _, _, _, _, _, fd, ["cls", "text", "top", "slash", "bottom", "under"], ["cls", "text"], [], [], Fd, sc_Ratio_read, rfl, rfl, ck_Ratio_read, hb, hb, .nil, fun F => rfl⟩
theorem dr_is_whole (T : TF src dfs K mg h) : DefR K tb (.g "is_whole") fd_is_whole := by
  obtain ⟨fd, Fd⟩ := T.c.def_ 16
  have hb : Binds K fd ["word"] [] := Fd.bindsN fun _ _ _ _ _ _ us hl => match us, hl with | [_], _ => rfl
  exact ⟨_, _, _, _, _, _, _, fd, ["word", "sign"], ["word"], [], [], Fd, sc_is_whole, rfl, rfl, ck_is_whole, hb, hb, .nil, fun F => rfl⟩
theorem dr_as_ratio (T : TF src dfs K mg h) : DefR K tb (.g "as_ratio") fd_as_ratio := by
  obtain ⟨fd, Fd⟩ := T.c.def_ 17
  have hb : Binds K fd ["given"] [] := Fd.bindsN fun _ _ _ _ _ _ us hl => match us, hl with | [_], _ => rfl
  exact ⟨_, _, _, _, _, _, _, fd, ["given"], ["given"], [], [], Fd, sc_as_ratio, rfl, rfl, ck_as_ratio, hb, hb, .nil, fun F => rfl⟩
theorem dr__law_box (T : TF src dfs K mg h) : DefR K tb (.g "_law_box") fd__law_box := by
  obtain ⟨fd, Fd⟩ := T.c.def_ 18
  have hb : Binds K fd ["_law_script", "_law_k"] [] := Fd.bindsN fun _ _ _ _ _ _ us hl => match us, hl with | [_, _], _ => rfl
  exact ⟨_, _, _, _, _, _, _, fd, ["_law_script", "_law_k", "_law_cell"], ["_law_script", "_law_k"], [], [], Fd, sc__law_box, rfl, rfl, ck__law_box, hb, hb, .nil, fun F => rfl⟩
theorem dr__law_take (T : TF src dfs K mg h) : DefR K tb (.g "_law_take") fd__law_take := by
  obtain ⟨fd, Fd⟩ := T.c.def_ 19
  have hb : Binds K fd ["_law_box_here", "_law_many"] [] := Fd.bindsN fun _ _ _ _ _ _ us hl => match us, hl with | [_, _], _ => rfl
  exact ⟨_, _, _, _, _, _, _, fd, ["_law_box_here", "_law_many", "_law_digit", "_law_blend"], ["_law_box_here", "_law_many"], [], [], Fd, sc__law_take, rfl, rfl, ck__law_take, hb, hb, .nil, fun F => rfl⟩
theorem dr__law_word (T : TF src dfs K mg h) : DefR K tb (.g "_law_word") fd__law_word := by
  obtain ⟨fd, Fd⟩ := T.c.def_ 20
  have hb : Binds K fd ["_law_top", "_law_under"] [] := Fd.bindsN fun _ _ _ _ _ _ us hl => match us, hl with | [_, _], _ => rfl
  exact ⟨_, _, _, _, _, _, _, fd, ["_law_top", "_law_under", "_law_one", "_law_other"], ["_law_top", "_law_under"], [], [], Fd, sc__law_word, rfl, rfl, ck__law_word, hb, hb, .nil, fun F => rfl⟩
theorem dr__law_is_number (T : TF src dfs K mg h) : DefR K tb (.g "_law_is_number") fd__law_is_number := by
  obtain ⟨fd, Fd⟩ := T.c.def_ 21
  have hb : Binds K fd ["_law_word_here"] [] := Fd.bindsN fun _ _ _ _ _ _ us hl => match us, hl with | [_], _ => rfl
  exact ⟨_, _, _, _, _, _, _, fd, ["_law_word_here", "_law_parts", "_law_head", "_law_part", "_law_sign"], ["_law_word_here"], [], [], Fd, sc__law_is_number, rfl, rfl, ck__law_is_number, hb, hb, .nil, fun F => rfl⟩
theorem dr__law_bent (T : TF src dfs K mg h) : DefR K tb (.g "_law_bent") fd__law_bent := by
  obtain ⟨fd, Fd⟩ := T.c.def_ 22
  have hb : Binds K fd ["_law_box_here", "_law_text"] [] := Fd.bindsN fun _ _ _ _ _ _ us hl => match us, hl with | [_, _], _ => rfl
  exact ⟨_, _, _, _, _, _, _, fd, ["_law_box_here", "_law_text", "_law_at", "_law_sign", "_law_way"], ["_law_box_here", "_law_text"], [], [], Fd, sc__law_bent, rfl, rfl, ck__law_bent, hb, hb, .nil, fun F => rfl⟩
theorem dr__law_told (T : TF src dfs K mg h) : DefR K tb (.g "_law_told") fd__law_told := by
  obtain ⟨fd, Fd⟩ := T.c.def_ 23
  have hb : Binds K fd ["_law_text"] [] := Fd.bindsN fun _ _ _ _ _ _ us hl => match us, hl with | [_], _ => rfl
  exact ⟨_, _, _, _, _, _, _, fd, ["_law_text"], ["_law_text"], [], [], Fd, sc__law_told, rfl, rfl, ck__law_told, hb, hb, .nil, fun F => rfl⟩
theorem dr_law (T : TF src dfs K mg h) : DefR K tb (.g "law") fd_law := by
  obtain ⟨fd, Fd⟩ := T.c.def_ 24
  have hb : Binds K fd ["_law_script"] [] := Fd.bindsN fun _ _ _ _ _ _ us hl => match us, hl with | [_], _ => rfl
  exact ⟨_, _, _, _, _, _, _, fd, ["_law_script", "_law_k", "_law_box_here", "_law_big", "_law_a", "_law_b", "_law_text", "_law_told_here", "_law_c", "_law_d", "_law_other", "_law_sign", "_law_turn", "_law_some", "_law_found", "_law_top", "_law_bottom"], ["_law_script"], [], [], Fd, sc_law, rfl, rfl, ck_law, hb, hb, .nil, fun F => rfl⟩
theorem dr_all (T : TF src dfs K mg h) : AllP (fun p : Fi × Fd => DefR K tb p.1 p.2) src.fns := ⟨dr_is_integer T, dr_is_number T, dr_common_divisor T, dr_Ratio___init__ T, dr_Ratio_top T, dr_Ratio_bottom T, dr_Ratio___add__ T, dr_Ratio___sub__ T, dr_Ratio___mul__ T, dr_Ratio___neg__ T, dr_Ratio___eq__ T, dr_Ratio___lt__ T, dr_Ratio___le__ T, dr_Ratio_over T, dr_Ratio_text T, dr_Ratio_read T, dr_is_whole T, dr_as_ratio T, dr__law_box T, dr__law_take T, dr__law_word T, dr__law_is_number T, dr__law_bent T, dr__law_told T, dr_law T, trivial⟩
variable {P : Program} {w : World} {base : Heap}
theorem er_ByZero (T : TF src dfs K mg h) : ErrR P w K mg base "ByZero" [] := by
  obtain ⟨fd, Fd⟩ := T.c.def_ 25
  refine (src_ok T.c.ok).err T.X T.G (by decide +kernel) fun hb hg => ⟨_, ⟨fd, ["self"], ok_e0 Fd sc_ByZero___init__ rfl rfl hb hg (fun env => ⟨_, rfl⟩), Fd.bindsN fun _ _ _ _ _ _ us hl => match us, hl with | [_], _ => rfl⟩, ?_⟩
  exact .inl ⟨rfl, rfl⟩
theorem er_BadText (T : TF src dfs K mg h) : ErrR P w K mg base "BadText" [] := by
  obtain ⟨fd, Fd⟩ := T.c.def_ 26
  refine (src_ok T.c.ok).err T.X T.G (by decide +kernel) fun hb hg => ⟨_, ⟨fd, ["self"], ok_e0 Fd sc_BadText___init__ rfl rfl hb hg (fun env => ⟨_, rfl⟩), Fd.bindsN fun _ _ _ _ _ _ us hl => match us, hl with | [_], _ => rfl⟩, ?_⟩
  exact .inl ⟨rfl, rfl⟩
theorem er_BadNumber (T : TF src dfs K mg h) : ErrR P w K mg base "BadNumber" ["given"] := by
  obtain ⟨fd, Fd⟩ := T.c.def_ 27
  refine (src_ok T.c.ok).err T.X T.G (by decide +kernel) fun hb hg => ⟨_, ⟨fd, ["self", "given"], ok_e1 Fd sc_BadNumber___init__ rfl rfl rfl hb hg (fun env => ⟨_, rfl⟩), Fd.bindsN fun _ _ _ _ _ _ us hl => match us, hl with | [_, _], _ => rfl⟩, ?_⟩
  exact .inr (.inl ⟨_, rfl, rfl⟩)
theorem er_all (T : TF src dfs K mg h) : AllP (fun p : Str × List Str => ErrR P w K mg base p.1 p.2) src.ers := ⟨er_ByZero T, er_BadText T, er_BadNumber T, trivial⟩
end
def names : List PySem.Str := (["KindsError", "ByZero", "BadText", "BadNumber", "DIGITS", "is_integer", "is_number", "common_divisor", "Ratio", "is_whole", "as_ratio", "_law_box", "_law_take", "_law_word", "_law_is_number", "_law_bent", "_law_told"] : List PySem.Str)
abbrev R : PySem.W.OpenRow := PySem.W.OpenLaw.row PySem.Challenge.rw_kindsmeet_k03_texts_of_ratios
abbrev hk : PySem.W.Hook := hookB 5 src dfs
def ob (s : PySem.W.SharedT) : AlB := obsBG 5 src dfs (HandSHeadRun.getT s)
theorem ob_eq (s : PySem.W.SharedT) : ob s = hk.obs s.abs := obsBG_eq (HandSHeadRun.getT_eq s)
theorem run (w : World) : HandSHeadRun.RunEq R (PySem.W.view R.prog [20]) hk ob 6000 names w := by
  intro os
  kernel_rfl
end L4
open PySem PySem.W PySem.Calls PyProof.Rows
theorem L4.holds_of (m : Nat) (hr : L2.Room (2 * m + 3) callerA) (hm : ∀ ns : List Int, ns.length ≤ 63 → ∃ Gz, L4.runF true (L4.hd L4.pg true m) L4.fd_law [.d (.scr ns)] [] = some (.ok (.d (.bool true)), Gz)) : PySem.Challenge.rw_kindsmeet_k03_texts_of_ratios.Holds := by
  w_on; o_law
  refine HandSHeadRun.head_any (r := OpenLaw.row PySem.Challenge.rw_kindsmeet_k03_texts_of_ratios) (q := view (OpenLaw.row PySem.Challenge.rw_kindsmeet_k03_texts_of_ratios).prog [20]) (H := L4.hk) (ob := L4.ob) (M := 6000) (loose := L4.names) (d := HandSHeadRun.topDef (OpenLaw.row PySem.Challenge.rw_kindsmeet_k03_texts_of_ratios).prog 20) (kwd := []) L4.ob_eq
    (by kernel_rfl) (fun s => by kernel_rfl) L4.run (by kernel_rfl) (by kernel_rfl) (by kernel_rfl) (by rfl) (by first | assumption | decide +kernel) (by decide +kernel) ⟨rfl, rfl, rfl, rfl, rfl, by decide +kernel⟩ ?hw ?hc
  case hw => w_witness2
  case hc =>
    refine L4.walk_Q (l := PySem.Challenge.rw_kindsmeet_k03_texts_of_ratios) (n := 63) (m := m) (pg := L4.pg) (qq := true) (fi := .g "law") (fL := L4.fd_law) rfl (by decide) (by kernel_rfl) hr ?Fo (by kernel_rfl) rfl hm
    intro w mg fa h Y G hmg0
    obtain ⟨K, KX, c⟩ := Y
    have T : L4.TF L4.src L4.dfs K mg h := ⟨KX, G, c⟩
    refine ⟨K, KX, ?_, fun base _ _ => T.lv (L4.er_all T).mem (L4.dr_all T).mem _⟩
    have hmg : mg ("law" : PySem.Str) = some (.ref fa) := by
      have e : (HandSHeadRun.topDef (OpenLaw.row PySem.Challenge.rw_kindsmeet_k03_texts_of_ratios).prog 20).name = ("law" : PySem.Str) := by kernel_rfl
      rw [← e]
      exact hmg0
    have e2 := hmg.symm.trans ((L4.kn_of KX G (L4.src_ok c.ok)).g "law" L4.fd_law (by kernel_rfl)).1
    cases e2
    rfl

set_option Elab.async false
set_option linter.all false
set_option maxRecDepth 100000
set_option maxHeartbeats 0
open PySem PySem.W PySem.Calls PyProof.Rows
theorem PySem.Challenge.cw_kindsmeet_k03_texts_of_ratios_holds : PySem.Challenge.rw_kindsmeet_k03_texts_of_ratios.Holds :=
  L4.holds_of 8 (by exact ⟨rfl, by decide, by decide⟩) fun ns hl => L4.law_true (n := 0) hl
