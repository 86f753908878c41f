import PyProof.Rows.All
import Wide.All
import OpenK.AllK
import Wide.FinOn
import HandS.ForMost
import HandS.Wide
import HandS.ForExc
import HandS.IsInst
import HandS.Exc
import HandS.WordsExc
import HandS.TryOnly
import HandS.Codes
import HandS.ExcOwn
import HandS.WideBits
import HandS.Style
import PySem.Challenge.RW_sharewheel_k13_what_came
set_option Elab.async false
set_option linter.all false
set_option maxRecDepth 100000
set_option maxHeartbeats 4000000
namespace Y
open PySem L2

/-! ## assertions: what a value is, over what never changes -/
structure As where
  p : Hp → V → Prop
  mono : ∀ {F F' : Hp} {v : V}, Same F F' → p F v → p F' v
def Cst (w : V) : As := ⟨fun _ v => v = w, fun _ h => h⟩
abbrev I (n : Int) : As := Cst (.int n)
abbrev B (b : Bool) : As := Cst (.bl b)
abbrev Rf (a : Addr) : As := Cst (.ref a)
abbrev Nn : As := Cst .non
abbrev S (x : Str) : As := Cst (.str x)
def Any : As := ⟨fun _ _ => True, fun _ h => h⟩
def All (F : Hp) : List As → List V → Prop
  | [], [] => True
  | R :: Rs, x :: xs => R.p F x ∧ All F Rs xs
  | _, _ => False
theorem All.mono {F F' : Hp} (s : Same F F') : ∀ {Rs : List As} {xs : List V}, All F Rs xs → All F' Rs xs
  | [], [], _ => trivial
  | R :: Rs, x :: xs, h => ⟨R.mono s h.1, All.mono s h.2⟩
  | [], _ :: _, h => h.elim
  | _ :: _, [], h => h.elim
theorem All.length {F : Hp} : ∀ {Rs : List As} {xs : List V}, All F Rs xs → xs.length = Rs.length
  | [], [], _ => rfl
  | R :: Rs, x :: xs, h => congrArg (· + 1) (All.length h.2)
  | [], _ :: _, h => h.elim
  | _ :: _, [], h => h.elim
theorem All.get {F : Hp} : ∀ {Rs : List As} {xs : List V} {i : Nat} {R : As}, All F Rs xs → Rs[i]? = some R → ∃ x, xs[i]? = some x ∧ R.p F x
  | [], [], i, R, _, e => by simp at e
  | R :: Rs, x :: xs, 0, R', h, e => by
    have e' : R = R' := Option.some.inj e
    subst e'; exact ⟨x, rfl, h.1⟩
  | R :: Rs, x :: xs, i + 1, R', h, e => by
    obtain ⟨y, e1, e2⟩ := All.get (i := i) h.2 (by simpa using e)
    exact ⟨y, by simpa using e1, e2⟩
  | [], _ :: _, _, _, h, _ => h.elim
  | _ :: _, [], _, _, h, _ => h.elim
theorem All.app {F : Hp} : ∀ {Rs Ss : List As} {xs ys : List V}, All F Rs xs → All F Ss ys → All F (Rs ++ Ss) (xs ++ ys)
  | [], _, [], _, _, h => h
  | R :: Rs, _, x :: xs, _, h, h' => ⟨h.1, All.app h.2 h'⟩
  | [], _, _ :: _, _, h, _ => h.elim
  | _ :: _, _, [], _, h, _ => h.elim
theorem All.of_get {F : Hp} : ∀ {Rs : List As} {xs : List V}, xs.length = Rs.length → (∀ (i : Nat) (R : As) (x : V), Rs[i]? = some R → xs[i]? = some x → R.p F x) → All F Rs xs
  | [], [], _, _ => trivial
  | R :: Rs, x :: xs, e, h => ⟨h 0 R x rfl rfl, All.of_get (by simpa using e) fun i R' x' a b => h (i + 1) R' x' (by simpa using a) (by simpa using b)⟩
  | [], _ :: _, e, _ => by simp at e
  | _ :: _, [], e, _ => by simp at e
theorem same_seqT {K : PySem.W.Frag} {F F' : Hp} {a : Addr} {xs : List V} (e : Same F F') (h : SqT K F a xs) : SqT K F' a xs := by
  rcases h with (h | ⟨o, h⟩) | h
  · exact .inl (.inl (e _ _ h))
  · exact .inl (.inr ⟨o, e _ _ h⟩)
  · exact .inr h
/-- a tuple, a list that stands still -/
def Tp (K : PySem.W.Frag) (Rs : List As) : As := ⟨fun F v => ∃ a xs, v = .ref a ∧ SqT K F a xs ∧ All F Rs xs, fun s h => by
  obtain ⟨a, xs, e, h1, h2⟩ := h; exact ⟨a, xs, e, same_seqT s h1, h2.mono s⟩⟩
def Ls (K : PySem.W.Frag) (Rs : List As) : As := ⟨fun F v => ∃ a xs, v = .ref a ∧ SqL K F a xs ∧ All F Rs xs, fun s h => by
  obtain ⟨a, xs, e, h1, h2⟩ := h; exact ⟨a, xs, e, s.seq h1, h2.mono s⟩⟩
/-- some value of a family -/
def Xs {β : Type} (P : β → Prop) (R : β → As) : As := ⟨fun F v => ∃ b, P b ∧ (R b).p F v, fun s h => by
  obtain ⟨b, h1, h2⟩ := h; exact ⟨b, h1, (R b).mono s h2⟩⟩

/-! ## the slots -/
abbrev Gm := List (Option As)
def Sat (F : Hp) : Gm → St → Prop
  | [], [] => True
  | none :: Γ, _ :: σ => Sat F Γ σ
  | some R :: Γ, s :: σ => (∃ v, s = some v ∧ R.p F v) ∧ Sat F Γ σ
  | _, _ => False
theorem Sat.mono {F F' : Hp} (s : Same F F') : ∀ {Γ : Gm} {σ : St}, Sat F Γ σ → Sat F' Γ σ
  | [], [], _ => trivial
  | none :: Γ, _ :: σ, h => Sat.mono (Γ := Γ) s h
  | some R :: Γ, _ :: σ, h => by
    obtain ⟨⟨v, e, q⟩, t⟩ := h
    exact ⟨⟨v, e, R.mono s q⟩, Sat.mono s t⟩
  | [], _ :: _, h => h.elim
  | none :: _, [], h => h.elim
  | some _ :: _, [], h => h.elim
theorem Sat.get {F : Hp} : ∀ {Γ : Gm} {σ : St} {i : Nat} {R : As}, Sat F Γ σ → Γ[i]? = some (some R) → ∃ v, σ[i]? = some (some v) ∧ R.p F v
  | [], [], i, R, _, e => by simp at e
  | none :: Γ, _ :: σ, 0, R, h, e => by simp at e
  | none :: Γ, s :: σ, i + 1, R, h, e => by
    obtain ⟨v, a, b⟩ := Sat.get (Γ := Γ) (σ := σ) (i := i) (R := R) h (by simpa using e)
    exact ⟨v, by simpa using a, b⟩
  | some R :: Γ, s :: σ, 0, R', h, e => by
    obtain ⟨⟨v, e1, q⟩, t⟩ := h
    have e' : R = R' := by simpa using e
    subst e'; subst e1; exact ⟨v, rfl, q⟩
  | some R :: Γ, s :: σ, i + 1, R', h, e => by
    obtain ⟨_, t⟩ := h
    obtain ⟨v, a, b⟩ := Sat.get (Γ := Γ) (σ := σ) (i := i) (R := R') t (by simpa using e)
    exact ⟨v, by simpa using a, b⟩
  | [], _ :: _, _, _, h, _ => h.elim
  | none :: _, [], _, _, h, _ => h.elim
  | some _ :: _, [], _, _, h, _ => h.elim
theorem Sat.set {F : Hp} {R : As} {v : V} (q : R.p F v) : ∀ {Γ : Gm} {σ : St} (i : Nat), Sat F Γ σ → Sat F (Γ.set i (some R)) (σ.set i (some v))
  | [], [], _, _ => trivial
  | none :: Γ, _ :: σ, 0, h => ⟨⟨v, rfl, q⟩, h⟩
  | none :: Γ, s :: σ, i + 1, h => Sat.set q (Γ := Γ) (σ := σ) i h
  | some _ :: Γ, s :: σ, 0, h => ⟨⟨v, rfl, q⟩, h.2⟩
  | some _ :: Γ, s :: σ, i + 1, h => ⟨h.1, Sat.set q (Γ := Γ) (σ := σ) i h.2⟩
  | [], _ :: _, _, h => h.elim
  | none :: _, [], _, h => h.elim
  | some _ :: _, [], _, h => h.elim
theorem Sat.unset {F : Hp} {s : Option V} : ∀ {Γ : Gm} {σ : St} (i : Nat), Sat F Γ σ → Sat F (Γ.set i none) (σ.set i s)
  | [], [], _, _ => trivial
  | none :: Γ, _ :: σ, 0, h => h
  | none :: Γ, s :: σ, i + 1, h => Sat.unset (Γ := Γ) (σ := σ) i h
  | some _ :: Γ, s :: σ, 0, h => h.2
  | some _ :: Γ, s :: σ, i + 1, h => ⟨h.1, Sat.unset (Γ := Γ) (σ := σ) i h.2⟩
  | [], _ :: _, _, h => h.elim
  | none :: _, [], _, h => h.elim
  | some _ :: _, [], _, h => h.elim
/-- fewer things known of the slots -/
inductive Wk : Gm → Gm → Prop
  | nil : Wk [] []
  | eq {R : Option As} {Γ Γ' : Gm} : Wk Γ Γ' → Wk (R :: Γ) (R :: Γ')
  | no {R : Option As} {Γ Γ' : Gm} : Wk Γ Γ' → Wk (R :: Γ) (none :: Γ')
theorem Sat.wk {F : Hp} : ∀ {Γ Γ' : Gm} {σ : St}, Wk Γ Γ' → Sat F Γ σ → Sat F Γ' σ
  | _, _, σ, .nil, h => h
  | none :: Γ, _, s :: σ, .eq w, h => Sat.wk (σ := σ) w h
  | some R :: Γ, _, s :: σ, .eq w, h => ⟨h.1, Sat.wk w h.2⟩
  | none :: Γ, _, s :: σ, .no w, h => Sat.wk (σ := σ) w h
  | some R :: Γ, _, s :: σ, .no w, h => Sat.wk (σ := σ) w h.2
  | none :: _, _, [], _, h => h.elim
  | some _ :: _, _, [], _, h => h.elim
theorem Wk.refl : ∀ Γ : Gm, Wk Γ Γ
  | [] => .nil
  | _ :: Γ => .eq (Wk.refl Γ)
theorem sat_start {F : Hp} : ∀ {Rs : List As} {vs : List V} (n : Nat), All F Rs vs → Sat F (Rs.map some ++ List.replicate n none) (vs.map some ++ List.replicate n none)
  | [], [], n, _ => by
    show Sat F (List.replicate n none) (List.replicate n none)
    induction n with
    | zero => trivial
    | succ n ih => exact ih
  | R :: Rs, x :: xs, n, h => ⟨⟨x, rfl, h.1⟩, sat_start n h.2⟩
  | [], _ :: _, _, h => h.elim
  | _ :: _, [], _, h => h.elim

/-! ## what is owned -/
structure OA where
  p : Hp → HO → Prop
  mono : ∀ {F F' : Hp} {o : HO}, Same F F' → p F o → p F' o
def oL (Rs : List As) : OA := ⟨fun F o => ∃ xs, o = .lst xs ∧ All F Rs xs, fun s h => by
  obtain ⟨xs, e, q⟩ := h; exact ⟨xs, e, q.mono s⟩⟩
abbrev Om := List (Addr × OA)
def Own (F H : Hp) (Ω : Om) : Prop := ∀ x, x ∈ Ω → F x.1 = none ∧ ∃ o, H x.1 = some o ∧ x.2.p F o

structure Ext (foot : List Addr) (F0 H0 F H : Hp) : Prop where
  fe : Same F0 F
  fr : ∀ a o, H0 a = some o → a ∉ foot → H a = some o
  dm : ∀ a, H a = none → H0 a = none
  nw : ∀ a, H0 a ≠ none → F0 a = none → F a = none
theorem Ext.refl (ft : List Addr) (F H : Hp) : Ext ft F H F H := ⟨Same.refl F, fun _ _ h _ => h, fun _ h => h, fun _ _ h => h⟩
theorem Ext.trans {ft : List Addr} {F0 H0 F1 H1 F2 H2 : Hp} (a : Ext ft F0 H0 F1 H1) (b : Ext ft F1 H1 F2 H2) : Ext ft F0 H0 F2 H2 :=
  ⟨a.fe.trans b.fe, fun x o h n => b.fr x o (a.fr x o h n) n, fun x h => a.dm x (b.dm x h), fun x h f => b.nw x (fun z => h (a.dm x z)) (a.nw x h f)⟩
theorem Ext.wid {ft ft' : List Addr} {F0 H0 F1 H1 : Hp} (a : Ext ft F0 H0 F1 H1) (h : ∀ x, x ∈ ft → x ∈ ft') : Ext ft' F0 H0 F1 H1 :=
  ⟨a.fe, fun x o q n => a.fr x o q fun z => n (h x z), a.dm, a.nw⟩
/-- a step that touches only what was not there at the start, or the footprint -/
theorem Ext.transL {ft ft' : List Addr} {F0 H0 F1 H1 F2 H2 : Hp} (a : Ext ft F0 H0 F1 H1) (b : Ext ft' F1 H1 F2 H2) (h : ∀ x, x ∈ ft' → x ∈ ft ∨ H0 x = none) : Ext ft F0 H0 F2 H2 :=
  ⟨a.fe.trans b.fe, fun x o q n => b.fr x o (a.fr x o q n) fun z => (h x z).elim n (fun e => by rw [e] at q; cases q),
    fun x h => a.dm x (b.dm x h), fun x h f => b.nw x (fun z => h (a.dm x z)) (a.nw x h f)⟩
structure Bs where
  F : Hp
  H : Hp
  ft : List Addr
  G : Hp
def Bs.pin (Z : Bs) (G : Hp) : Bs := ⟨Z.F, Z.H, Z.ft, G⟩
structure Ctx (Z : Bs) (F H : Hp) (σ : St) (Γ : Gm) (Ω : Om) : Prop where
  sat : Sat F Γ σ
  sub : Same F H
  own : Own F H Ω
  nd : (Ω.map (·.1)).Nodup
  loc : ∀ x, x ∈ Ω → x.1 ∈ Z.ft ∨ Z.H x.1 = none
  ext : Ext Z.ft Z.F Z.H F H
  pin : Same Z.G F
section
variable {Z : Bs} {F H F' H' : Hp} {σ σ' : St} {Γ Γ' : Gm} {Ω Ω' : Om} {K : PySem.W.Frag}
theorem Own.ext {ft : List Addr} (e : Ext ft F H F' H') (h : Own F H Ω) (d : ∀ x, x ∈ Ω → x.1 ∉ ft) : Own F' H' Ω := fun x hx => by
  obtain ⟨h1, o, h2, h3⟩ := h x hx
  exact ⟨e.nw _ (by rw [h2]; exact fun z => by cases z) h1, o, e.fr _ _ h2 (d x hx), x.2.mono e.fe h3⟩
theorem Ctx.step (c : Ctx Z F H σ Γ Ω) (e : Ext [] F H F' H') (s : Same F' H') : Ctx Z F' H' σ Γ Ω :=
  ⟨c.sat.mono e.fe, s, c.own.ext e (fun _ _ => List.not_mem_nil), c.nd, c.loc, c.ext.trans (e.wid fun _ h => absurd h List.not_mem_nil), c.pin.trans e.fe⟩
theorem Ctx.wk (c : Ctx Z F H σ Γ Ω) (w : Wk Γ Γ') : Ctx Z F H σ Γ' Ω := ⟨c.sat.wk w, c.sub, c.own, c.nd, c.loc, c.ext, c.pin⟩
theorem Ctx.set (c : Ctx Z F H σ Γ Ω) {R : As} {v : V} (i : Nat) (q : R.p F v) : Ctx Z F H (σ.set i (some v)) (Γ.set i (some R)) Ω := ⟨c.sat.set q i, c.sub, c.own, c.nd, c.loc, c.ext, c.pin⟩
theorem Ctx.topin (c : Ctx Z F H σ Γ Ω) {G : Hp} (h : Same G F) : Ctx (Z.pin G) F H σ Γ Ω := ⟨c.sat, c.sub, c.own, c.nd, c.loc, c.ext, h⟩
theorem Ctx.unpin {G : Hp} (c : Ctx (Z.pin G) F H σ Γ Ω) (h : Same Z.G G) : Ctx Z F H σ Γ Ω := ⟨c.sat, c.sub, c.own, c.nd, c.loc, c.ext, h.trans c.pin⟩
/-- a new thing that never changes -/
theorem Ext.new {p : Addr} {o : HO} (s : Same F H) (h : H p = none) : Ext [] F H (upd F p o) (upd H p o) ∧ Same (upd F p o) (upd H p o) := by
  have hf : F p = none := s.free h
  refine ⟨⟨fun a u e => ?_, fun a u e _ => ?_, fun a e => ?_, fun a h1 h2 => ?_⟩, fun a u e => ?_⟩
  · rw [upd_ne (ne_of_none e hf)]; exact e
  · rw [upd_ne (ne_of_none e h)]; exact e
  · by_cases q : a = p
    · subst q; exact h
    · rw [upd_ne q] at e; exact e
  · have q : a ≠ p := fun z => h1 (by rw [z]; exact h)
    rw [upd_ne q]; exact h2
  · by_cases q : a = p
    · subst q; rw [upd_same] at e ⊢; exact e
    · rw [upd_ne q] at e ⊢; exact s a u e
/-- a new thing that is not frozen -/
theorem Ext.newH {p : Addr} {o : HO} (h : H p = none) : Ext [] F H F (upd H p o) := by
  refine ⟨Same.refl F, fun a u e _ => ?_, fun a e => ?_, fun a h1 h2 => h2⟩
  · rw [upd_ne (ne_of_none e h)]; exact e
  · by_cases q : a = p
    · subst q; exact h
    · rw [upd_ne q] at e; exact e

/-! ## judgements -/
def Ev (Γ : Gm) (Ω : Om) (te : TE) (R : As) : Prop := ∀ (Z : Bs) (F H : Hp) (σ : St), Ctx Z F H σ Γ Ω → ∀ Q : VK, (∀ v F' H', Ctx Z F' H' σ Γ Ω → Ext [] F H F' H' → R.p F' v → Q v H') → te σ H Q
def EvT (Γ : Gm) (Ω : Om) (tt : TT) (b : Bool) : Prop := ∀ (Z : Bs) (F H : Hp) (σ : St), Ctx Z F H σ Γ Ω → ∀ Q : Bool → Hp → Prop, (∀ F' H', Ctx Z F' H' σ Γ Ω → Ext [] F H F' H' → Q b H') → tt σ H Q
def EvA (Γ : Gm) (Ω : Om) (ta : TA) (Rs : List As) : Prop := ∀ (Z : Bs) (F H : Hp) (σ : St), Ctx Z F H σ Γ Ω → ∀ Q : List V → Hp → Prop, (∀ vs F' H', Ctx Z F' H' σ Γ Ω → Ext [] F H F' H' → All F' Rs vs → Q vs H') → ta σ H Q
/-- by values: an operation of two, of one, a call -/
def RV (r : R2) (Rx Ry R : As) : Prop := ∀ (F H : Hp) (x y : V), Same F H → Rx.p F x → Ry.p F y → ∀ Q : VK, (∀ v F' H', Ext [] F H F' H' → Same F' H' → R.p F' v → Q v H') → r x y H Q
def RC (r : List V → Hp → VK → Prop) (Rs : List As) (R : As) : Prop := ∀ (F H : Hp) (vs : List V), Same F H → All F Rs vs → ∀ Q : VK, (∀ v F' H', Ext [] F H F' H' → Same F' H' → R.p F' v → Q v H') → r vs H Q

variable {te ta tb : TE} {tt tu : TT} {R Rx Ry : As}
theorem ev_var {i : Nat} (h : Γ[i]? = some (some R)) : Ev Γ Ω (tVar i) R := fun Z F H σ c Q q => by
  obtain ⟨v, e, r⟩ := c.sat.get h
  exact ⟨v, e, q v F H c (Ext.refl _ _ _) r⟩
theorem ev_c {v : V} : Ev Γ Ω (tC v) (Cst v) := fun Z F H σ c Q q => q v F H c (Ext.refl _ _ _) rfl
theorem ev_op {r : R2} (ha : Ev Γ Ω ta Rx) (hb : Ev Γ Ω tb Ry) (hr : RV r Rx Ry R) : Ev Γ Ω (tOp r ta tb) R := fun Z F H σ c Q q =>
  ha Z F H σ c _ fun x F1 H1 c1 s1 rx => hb Z F1 H1 σ c1 _ fun y F2 H2 c2 s2 ry =>
    hr F2 H2 x y c2.sub (Rx.mono s2.fe rx) ry Q fun v F3 H3 e3 s3 rv => q v F3 H3 (c2.step e3 s3) (s1.trans (s2.trans e3)) rv
theorem ev_un {r : V → Hp → VK → Prop} (ha : Ev Γ Ω ta Rx) (hr : ∀ (F H : Hp) (x : V), Same F H → Rx.p F x → ∀ Q : VK, (∀ v, R.p F v → Q v H) → r x H Q) : Ev Γ Ω (tUn r ta) R := fun Z F H σ c Q q =>
  ha Z F H σ c _ fun x F1 H1 c1 s1 rx => hr F1 H1 x c1.sub rx Q fun v rv => q v F1 H1 c1 s1 rv
theorem ev_neg {n : Int} (ha : Ev Γ Ω ta (I n)) : Ev Γ Ω (tUn (rU fun i => .int (-i)) ta) (I (-n)) := ev_un ha fun F H x _ e Q q => ⟨n, e, q _ rfl⟩
theorem rv_I0 {g : Int → Int → V} {i j : Int} : RV (rI0 g) (I i) (I j) (Cst (g i j)) := fun F H x y s e e' Q q => ⟨i, j, e, e', q _ F H (Ext.refl _ _ _) s rfl⟩
theorem rv_I {C : Int → Int → Prop} {g : Int → Int → V} {i j : Int} (h : C i j) : RV (rI C g) (I i) (I j) (Cst (g i j)) := fun F H x y s e e' Q q => ⟨i, j, e, e', h, q _ F H (Ext.refl _ _ _) s rfl⟩
theorem ev_I0 {g : Int → Int → V} {i j : Int} (ha : Ev Γ Ω ta (I i)) (hb : Ev Γ Ω tb (I j)) : Ev Γ Ω (tOp (rI0 g) ta tb) (Cst (g i j)) := ev_op ha hb rv_I0
theorem ev_I {C : Int → Int → Prop} {g : Int → Int → V} {i j : Int} (ha : Ev Γ Ω ta (I i)) (hb : Ev Γ Ω tb (I j)) (h : C i j) : Ev Γ Ω (tOp (rI C g) ta tb) (Cst (g i j)) := ev_op ha hb (rv_I h)
theorem ev_eqI {i j : Int} (ha : Ev Γ Ω ta (I i)) (hb : Ev Γ Ω tb (I j)) : Ev Γ Ω (tOp rEq ta tb) (B (decide (i = j))) := ev_op ha hb fun F H x y s e e' Q q => by
  cases e; cases e'
  refine ⟨rfl, ?_⟩
  have z : decide (V.int i = V.int j) = decide (i = j) := by simp
  rw [z]
  exact q _ F H (Ext.refl _ _ _) s rfl
theorem ev_neI {i j : Int} (ha : Ev Γ Ω ta (I i)) (hb : Ev Γ Ω tb (I j)) : Ev Γ Ω (tOp rNe ta tb) (B (!decide (i = j))) := ev_op ha hb fun F H x y s e e' Q q => by
  cases e; cases e'
  refine ⟨rfl, ?_⟩
  have z : decide (V.int i = V.int j) = decide (i = j) := by simp
  rw [z]
  exact q _ F H (Ext.refl _ _ _) s rfl
theorem ev_cast {R' : As} (h : Ev Γ Ω te R) (e : ∀ F v, R.p F v → R'.p F v) : Ev Γ Ω te R' := fun Z F H σ c Q q => h Z F H σ c Q fun v F1 H1 c1 s1 r => q v F1 H1 c1 s1 (e _ _ r)
theorem ev_is {R' : As} (h : Ev Γ Ω te R) (e : R = R') : Ev Γ Ω te R' := e ▸ h
/-! places of lists and tuples -/
theorem atI_all {F : Hp} {Rs : List As} {xs : List V} {i : Int} (h : All F Rs xs) (e : atI Rs i = some R) : ∃ x, atI xs i = some x ∧ R.p F x := by
  unfold atI at e ⊢
  have hl := h.length
  rw [hl]
  cases z : ixN Rs.length i with
  | none => rw [z] at e; cases e
  | some j => rw [z] at e; exact h.get e
theorem ev_ixT {Rs : List As} {i : Int} (ha : Ev Γ Ω ta (Tp K Rs)) (hb : Ev Γ Ω tb (I i)) (h : atI Rs i = some R) : Ev Γ Ω (tOp (rIxT K) ta tb) R := ev_op ha hb fun F H x y s rx e Q q => by
  obtain ⟨a, xs, ea, hs, hl⟩ := rx
  obtain ⟨v, e1, r⟩ := atI_all hl h
  exact ⟨a, xs, i, v, ea, e, same_seqT s hs, e1, q v F H (Ext.refl _ _ _) s r⟩
theorem ev_ixL {Rs : List As} {i : Int} (ha : Ev Γ Ω ta (Ls K Rs)) (hb : Ev Γ Ω tb (I i)) (h : atI Rs i = some R) : Ev Γ Ω (tOp (rIxL K) ta tb) R := ev_op ha hb fun F H x y s rx e Q q => by
  obtain ⟨a, xs, ea, hs, hl⟩ := rx
  obtain ⟨v, e1, r⟩ := atI_all hl h
  exact ⟨a, xs, i, v, ea, e, s.seq hs, e1, q v F H (Ext.refl _ _ _) s r⟩
/-! arguments, displays, calls of built-ins -/
theorem ea_nil : EvA Γ Ω tNil [] := fun Z F H σ c Q q => q [] F H c (Ext.refl _ _ _) trivial
theorem ea_cons {tr : TA} {Rs : List As} (h : Ev Γ Ω te R) (hr : EvA Γ Ω tr Rs) : EvA Γ Ω (tCons te tr) (R :: Rs) := fun Z F H σ c Q q =>
  h Z F H σ c _ fun v F1 H1 c1 s1 r => hr Z F1 H1 σ c1 _ fun vs F2 H2 c2 s2 rs => q (v :: vs) F2 H2 c2 (s1.trans s2) ⟨R.mono s2.fe r, rs⟩
theorem ev_tup {ta : TA} {Rs : List As} (h : EvA Γ Ω ta Rs) (hl : Rs.length ≤ 1000 := by decide) : Ev Γ Ω (tTup ta) (Tp K Rs) := fun Z F H σ c Q q =>
  h Z F H σ c _ fun vs F1 H1 c1 s1 rs => ⟨by rw [rs.length]; exact Nat.le_of_lt (small1000 hl), fun p hp => by
    obtain ⟨e, s⟩ := Ext.new (o := .tup vs) c1.sub hp
    exact q (.ref p) _ _ (c1.step e s) (s1.trans e) ⟨p, vs, rfl, SqT.of upd_same, rs.mono e.fe⟩⟩
theorem ev_lst {ta : TA} {Rs : List As} (h : EvA Γ Ω ta Rs) (hl : Rs.length ≤ 1000 := by decide) : Ev Γ Ω (tLst ta) (Ls K Rs) := fun Z F H σ c Q q =>
  h Z F H σ c _ fun vs F1 H1 c1 s1 rs => ⟨by rw [rs.length]; exact Nat.le_of_lt (small1000 hl), fun p hp => by
    obtain ⟨e, s⟩ := Ext.new (o := .lst vs) c1.sub hp
    exact q (.ref p) _ _ (c1.step e s) (s1.trans e) ⟨p, vs, rfl, SqL.of upd_same, rs.mono e.fe⟩⟩
theorem ev_cb {r : List V → Hp → VK → Prop} {ta : TA} {Rs : List As} (h : EvA Γ Ω ta Rs) (hr : RC r Rs R) : Ev Γ Ω (tCB r ta) R := fun Z F H σ c Q q =>
  h Z F H σ c _ fun vs F1 H1 c1 s1 rs => hr F1 H1 vs c1.sub rs Q fun v F2 H2 e2 s2 r => q v F2 H2 (c1.step e2 s2) (s1.trans e2) r
/-! tests -/
theorem et_test {b : Bool} (h : Ev Γ Ω te (B b)) : EvT Γ Ω (tTest te) b := fun Z F H σ c Q q => h Z F H σ c _ fun v F1 H1 c1 s1 r => ⟨b, r, q F1 H1 c1 s1⟩
theorem et_B {b : Bool} (h : Ev Γ Ω te (B b)) : EvT Γ Ω (tB te) b := fun Z F H σ c Q q => h Z F H σ c _ fun v F1 H1 c1 s1 r => ⟨b, r, q F1 H1 c1 s1⟩
theorem et_and {a b : Bool} (h1 : EvT Γ Ω tt a) (h2 : a = true → EvT Γ Ω tu b) : EvT Γ Ω (tAnd tt tu) (a && b) := fun Z F H σ c Q q => h1 Z F H σ c _ fun F1 H1 c1 s1 => by
  cases a with
  | true => exact iteT (h2 rfl Z F1 H1 σ c1 Q fun F2 H2 c2 s2 => q F2 H2 c2 (s1.trans s2))
  | false => exact iteF (q F1 H1 c1 s1)
theorem et_or {a b : Bool} (h1 : EvT Γ Ω tt a) (h2 : a = false → EvT Γ Ω tu b) : EvT Γ Ω (tOr tt tu) (a || b) := fun Z F H σ c Q q => h1 Z F H σ c _ fun F1 H1 c1 s1 => by
  cases a with
  | true => exact iteT (q F1 H1 c1 s1)
  | false => exact iteF (h2 rfl Z F1 H1 σ c1 Q fun F2 H2 c2 s2 => q F2 H2 c2 (s1.trans s2))
theorem et_not {a : Bool} (h1 : EvT Γ Ω tt a) : EvT Γ Ω (tNot tt) (!a) := fun Z F H σ c Q q => h1 Z F H σ c _ fun F1 H1 c1 s1 => q F1 H1 c1 s1
theorem et_is {a b : Bool} (h : EvT Γ Ω tt a) (e : a = b) : EvT Γ Ω tt b := e ▸ h
theorem ev_andV {a b : Bool} (h1 : Ev Γ Ω ta (B a)) (h2 : a = true → Ev Γ Ω tb (B b)) : Ev Γ Ω (tAndV ta tb) (B (a && b)) := fun Z F H σ c Q q => h1 Z F H σ c _ fun v F1 H1 c1 s1 r => ⟨a, r, by
  cases a with
  | true => exact iteT (h2 rfl Z F1 H1 σ c1 Q fun v F2 H2 c2 s2 r2 => q v F2 H2 c2 (s1.trans s2) r2)
  | false => exact iteF (q _ F1 H1 c1 s1 rfl)⟩
theorem ev_orV {a b : Bool} (h1 : Ev Γ Ω ta (B a)) (h2 : a = false → Ev Γ Ω tb (B b)) : Ev Γ Ω (tOrV ta tb) (B (a || b)) := fun Z F H σ c Q q => h1 Z F H σ c _ fun v F1 H1 c1 s1 r => ⟨a, r, by
  cases a with
  | true => exact iteT (q _ F1 H1 c1 s1 rfl)
  | false => exact iteF (h2 rfl Z F1 H1 σ c1 Q fun v F2 H2 c2 s2 r2 => q v F2 H2 c2 (s1.trans s2) r2)⟩
theorem ev_notV {a : Bool} (h1 : Ev Γ Ω ta (B a)) : Ev Γ Ω (tNotV ta) (B (!a)) := fun Z F H σ c Q q => h1 Z F H σ c _ fun v F1 H1 c1 s1 r => ⟨a, r, q _ F1 H1 c1 s1 rfl⟩
theorem ev_if {b : Bool} (h : EvT Γ Ω tt b) (h1 : b = true → Ev Γ Ω ta R) (h2 : b = false → Ev Γ Ω tb R) : Ev Γ Ω (tIf tt ta tb) R := fun Z F H σ c Q q => h Z F H σ c _ fun F1 H1 c1 s1 => by
  cases b with
  | true => exact iteT (h1 rfl Z F1 H1 σ c1 Q fun v F2 H2 c2 s2 r2 => q v F2 H2 c2 (s1.trans s2) r2)
  | false => exact iteF (h2 rfl Z F1 H1 σ c1 Q fun v F2 H2 c2 s2 r2 => q v F2 H2 c2 (s1.trans s2) r2)

/-! ## contracts of defs that change nothing -/
def CtF {α : Type} (args : α → List As) (pre : α → Prop) (res : α → As) : Sp := fun vs H Q _ =>
  ∃ a F, Same F H ∧ All F (args a) vs ∧ pre a ∧ ∀ v F' H', Ext [] F H F' H' → Same F' H' → (res a).p F' v → Q v H'
theorem CtF.len {α : Type} {args : α → List As} {pre : α → Prop} {res : α → As} {n : Nat} (h : ∀ a, (args a).length = n) : ∀ vs H Q E, CtF args pre res vs H Q E → vs.length = n := by
  rintro vs H Q E ⟨a, F, _, ha, _⟩
  rw [ha.length, h]
theorem ev_call {α : Type} {args : α → List As} {pre : α → Prop} {res : α → As} {E : XK} {ta : TA} (a : α) (h : EvA Γ Ω ta (args a)) (hp : pre a) : Ev Γ Ω (tCall (CtF args pre res) [] E ta) (res a) := fun Z F H σ c Q q =>
  h Z F H σ c _ fun vs F1 H1 c1 s1 rs => ⟨a, F1, c1.sub, by rw [List.append_nil]; exact rs, hp, fun v F2 H2 e2 s2 r => q v F2 H2 (c1.step e2 s2) (s1.trans e2) r⟩
theorem ctx_start {Rs : List As} {vs : List V} {N : List Str} (s : Same F H) (h : All F Rs vs) : Ctx ⟨F, H, [], F⟩ F H (L2.start N vs) (Rs.map some ++ List.replicate (N.length - Rs.length) none) [] := by
  refine ⟨?_, s, fun _ h => absurd h List.not_mem_nil, List.nodup_nil, fun _ h => absurd h List.not_mem_nil, Ext.refl _ _ _, Same.refl _⟩
  unfold L2.start
  rw [h.length]
  exact sat_start _ h

/-! ## targets -/
def Gt (Γ : Gm) (R : As) (g : TG) (Γ' : Gm) (ws : List Nat) : Prop := ∀ (Z : Bs) (F H : Hp) (σ : St) (v : V) (Ω : Om), Ctx Z F H σ Γ Ω → R.p F v → ∀ Q : St → Hp → Prop,
  (∀ σ', Ctx Z F H σ' Γ' Ω → (∀ vs, (∀ i, i ∈ ws → i ∈ vs) → wipe σ' vs = wipe σ vs) → Q σ' H) → g v σ H Q
def Gts (Γ : Gm) (Rs : List As) (g : TGs) (Γ' : Gm) (ws : List Nat) : Prop := ∀ (Z : Bs) (F H : Hp) (σ : St) (vs : List V) (Ω : Om), Ctx Z F H σ Γ Ω → All F Rs vs → ∀ Q : St → Hp → Prop,
  (∀ σ', Ctx Z F H σ' Γ' Ω → (∀ us, (∀ i, i ∈ ws → i ∈ us) → wipe σ' us = wipe σ us) → Q σ' H) → g vs σ H Q
theorem wipe_set {σ : St} {i : Nat} {s : Option V} : ∀ {vs : List Nat}, i ∈ vs → wipe (σ.set i s) vs = wipe σ vs
  | [], h => absurd h List.not_mem_nil
  | v :: vs, h => by
    show (wipe (σ.set i s) vs).set v none = (wipe σ vs).set v none
    by_cases hi : i ∈ vs
    · rw [wipe_set hi]
    · have e : i = v := by
        rcases List.mem_cons.mp h with q | q
        · exact q
        · exact absurd q hi
      subst e
      have k : ∀ {us : List Nat} {τ : St}, i ∉ us → wipe (τ.set i s) us = (wipe τ us).set i s := fun {us τ} => by
        induction us with
        | nil => intro _; rfl
        | cons u us ih =>
          intro hn
          have h1 : u ≠ i := fun z => hn (by rw [z]; exact List.mem_cons_self)
          have h2 : i ∉ us := fun z => hn (List.mem_cons_of_mem _ z)
          show (wipe (τ.set i s) us).set u none = ((wipe τ us).set u none).set i s
          rw [ih h2, List.set_comm _ _ h1]
      rw [k hi, List.set_set]
theorem gt_name {i : Nat} : Gt Γ R (gName i) (Γ.set i (some R)) [i] := fun Z F H σ v Ω c r Q q => q _ (c.set i r) fun vs h => wipe_set (h i List.mem_cons_self)
theorem gts_nil : Gts Γ [] gNil Γ [] := fun Z F H σ vs Ω c rs Q q => by
  cases vs with
  | nil => exact ⟨rfl, q σ c fun _ _ => rfl⟩
  | cons _ _ => exact rs.elim
theorem gts_cons {t : TG} {u : TGs} {Γ1 Γ2 : Gm} {Rs : List As} {w1 w2 : List Nat} (h : Gt Γ R t Γ1 w1) (h' : Gts Γ1 Rs u Γ2 w2) : Gts Γ (R :: Rs) (gCons t u) Γ2 (w1 ++ w2) := fun Z F H σ vs Ω c rs Q q => by
  cases vs with
  | nil => exact rs.elim
  | cons x xs => exact ⟨x, xs, rfl, h Z F H σ x Ω c rs.1 _ fun σ1 c1 k1 => h' Z F H σ1 xs Ω c1 rs.2 Q fun σ2 c2 k2 => q σ2 c2 fun us hu =>
      (k2 us fun i hi => hu i (List.mem_append_right _ hi)).trans (k1 us fun i hi => hu i (List.mem_append_left _ hi))⟩
theorem gt_tup {n : Nat} {t : TGs} {Rs : List As} {ws : List Nat} (h : Gts Γ Rs t Γ' ws) (hn : Rs.length = n := by rfl) : Gt Γ (Tp K Rs) (gTup K n t) Γ' ws := fun Z F H σ v Ω c r Q q => by
  obtain ⟨a, xs, e, hs, hl⟩ := r
  exact ⟨a, xs, e, same_seqT c.sub hs, hl.length.trans hn, h Z F H σ xs Ω c hl Q q⟩

/-! ## statements -/
variable {n : L2.St → Hp → Prop} {r : VK} {bk ct : L2.St → Hp → Prop} {t1 t2 : TS}
theorem st_asg {g : TG} {ws : List Nat} (c : Ctx Z F H σ Γ Ω) (e : Ev Γ Ω te R) (hg : Gt Γ R g Γ' ws) (k : ∀ F' H' σ', Ctx Z F' H' σ' Γ' Ω → Same F F' → n σ' H') : tAsg te g ⟨n, r, bk, ct⟩ σ H :=
  e Z F H σ c _ fun v F1 H1 c1 s1 rv => hg Z F1 H1 σ v Ω c1 rv _ fun σ' c2 _ => k F1 H1 σ' c2 s1.fe
theorem st_set {i : Nat} (c : Ctx Z F H σ Γ Ω) (e : Ev Γ Ω te R) (k : ∀ F' H' σ', Ctx Z F' H' σ' (Γ.set i (some R)) Ω → Same F F' → n σ' H') : tAsg te (gName i) ⟨n, r, bk, ct⟩ σ H := st_asg c e gt_name k
theorem st_drop (c : Ctx Z F H σ Γ Ω) (e : Ev Γ Ω te R) (k : ∀ F' H', Ctx Z F' H' σ Γ Ω → Same F F' → n σ H') : tDrop te ⟨n, r, bk, ct⟩ σ H := e Z F H σ c _ fun _ F1 H1 c1 s1 _ => k F1 H1 c1 s1.fe
theorem st_ret (c : Ctx Z F H σ Γ Ω) (e : Ev Γ Ω te R) (k : ∀ v F' H', Ctx Z F' H' σ Γ Ω → Same F F' → R.p F' v → r v H') : tRet te ⟨n, r, bk, ct⟩ σ H := e Z F H σ c _ fun v F1 H1 c1 s1 rv => k v F1 H1 c1 s1.fe rv
theorem st_if {b : Bool} (c : Ctx Z F H σ Γ Ω) (e : EvT Γ Ω tt b) (k1 : b = true → ∀ F' H', Ctx Z F' H' σ Γ Ω → Same F F' → t1 ⟨n, r, bk, ct⟩ σ H') (k2 : b = false → ∀ F' H', Ctx Z F' H' σ Γ Ω → Same F F' → t2 ⟨n, r, bk, ct⟩ σ H') : tIfS tt t1 t2 ⟨n, r, bk, ct⟩ σ H :=
  e Z F H σ c _ fun F1 H1 c1 s1 => by
    cases b with
    | true => exact iteT (k1 rfl F1 H1 c1 s1.fe)
    | false => exact iteF (k2 rfl F1 H1 c1 s1.fe)
theorem st_par {i j : Nat} {ta : TA} {R1 R2 : As} (c : Ctx Z F H σ Γ Ω) (e : EvA Γ Ω ta [R1, R2]) (k : ∀ F' H' σ', Ctx Z F' H' σ' ((Γ.set i (some R1)).set j (some R2)) Ω → Same F F' → n σ' H') : tPar i j ta ⟨n, r, bk, ct⟩ σ H :=
  e Z F H σ c _ fun vs F1 H1 c1 s1 rs => by
    match vs, rs with
    | [v, w], ⟨r1, r2, _⟩ => exact ⟨v, w, rfl, k F1 H1 _ ((c1.set i r1).set j r2) s1.fe⟩
theorem st_aug {i : Nat} {ti : TIp} {Rx : As} (c : Ctx Z F H σ Γ Ω) (h : Γ[i]? = some (some Rx)) (e : Ev Γ Ω te Ry) (hr : RV ti Rx Ry R) (k : ∀ F' H' σ', Ctx Z F' H' σ' (Γ.set i (some R)) Ω → Same F F' → n σ' H') : tAug i te ti ⟨n, r, bk, ct⟩ σ H := by
  obtain ⟨x, ex, rx⟩ := c.sat.get h
  exact ⟨x, ex, e Z F H σ c _ fun y F1 H1 c1 s1 ry => hr F1 H1 x y c1.sub (Rx.mono s1.fe rx) ry _ fun v F2 H2 e2 s2 rv => k F2 H2 _ ((c1.step e2 s2).set i rv) (s1.fe.trans e2.fe)⟩
theorem st_while {ι : Type} {tc : TT} {tb : TS} (G : ι → Gm) (O : ι → Om) (P : ι → Prop) (μ : ι → Nat) (b : ι → Bool) (i0 : ι) (c : Ctx Z F H σ (G i0) (O i0)) (p0 : P i0) (ht : ∀ i, P i → EvT (G i) (O i) tc (b i))
    (body : ∀ i F H σ (N : St → Hp → Prop), P i → b i = true → Ctx Z F H σ (G i) (O i) → (∀ j F' H' σ', P j → μ j < μ i → Ctx Z F' H' σ' (G j) (O j) → N σ' H') → tb ⟨N, r, n, N⟩ σ H)
    (hd : ∀ i F H σ, P i → b i = false → Ctx Z F H σ (G i) (O i) → n σ H) : tWhile tc tb ⟨n, r, bk, ct⟩ σ H := by
  refine ⟨fun m σ H => ∃ i F, μ i = m ∧ P i ∧ Ctx Z F H σ (G i) (O i), ⟨_, i0, F, rfl, p0, c⟩, ?_⟩
  rintro m σ H ⟨i, F, rfl, p, c⟩
  refine ht i p Z F H σ c _ fun F1 H1 c1 s1 => ?_
  cases e : b i with
  | true => exact iteT ⟨fun σ' H' => ∃ m', m' < μ i ∧ ∃ j F', μ j = m' ∧ P j ∧ Ctx Z F' H' σ' (G j) (O j), fun σ' H' h => h, body i F1 H1 σ _ p e c1 fun j F' H' σ' pj lt cj => ⟨_, lt, j, F', rfl, pj, cj⟩⟩
  | false => exact iteF (hd i F1 H1 σ p e c1)
theorem st_for {ι α : Type} {tl : TE} {g : TG} {tb : TS} {xs : List α} {f : α → As} (G : ι → Gm) (G' : α → ι → Gm) (O : ι → Om) (P : Nat → ι → Prop) {ws : List Nat} (i0 : ι) (c : Ctx Z F H σ (G i0) (O i0)) (e : Ev (G i0) (O i0) tl (Ls K (xs.map f))) (p0 : P 0 i0)
    (hg : ∀ x i, Gt (G i) (f x) g (G' x i) ws)
    (body : ∀ k x i G1 F H σ (N : St → Hp → Prop), xs[k]? = some x → P k i → Ctx (Z.pin G1) F H σ (G' x i) (O i) → (∀ j F' H' σ', P (k + 1) j → Ctx (Z.pin G1) F' H' σ' (G j) (O j) → N σ' H') → tb ⟨N, r, n, N⟩ σ H)
    (hd : ∀ i F H σ, P xs.length i → Ctx Z F H σ (G i) (O i) → n σ H) : tFor (iList K tl) g tb ⟨n, r, bk, ct⟩ σ H := by
  refine e Z F H σ c _ fun v F1 H1 c1 s1 rv => ?_
  obtain ⟨a, ys, ea, hs, hl⟩ := rv
  have hlen : ys.length = xs.length := by rw [hl.length, List.length_map]
  refine ⟨a, ea, ⟨ys, c1.sub.seq hs⟩, for_list (K := K) (a := a) (xs := ys) (fun k σ H => ∃ i F, P k i ∧ Ctx (Z.pin F1) F H σ (G i) (O i)) ⟨i0, F1, p0, c1.topin (Same.refl _)⟩ (fun k σ H _ ⟨i, F, _, cc⟩ => cc.sub.seq (cc.pin.seq hs)) ?_ ?_⟩
  · rintro k y σ H hy ⟨i, F, p, cc⟩
    have hk : k < xs.length := by rw [← hlen]; exact (List.getElem?_eq_some_iff.mp hy).1
    have hx : xs[k]? = some xs[k] := List.getElem?_eq_getElem hk
    have hz : (xs.map f)[k]? = some (f xs[k]) := by rw [List.getElem?_map, hx]; rfl
    obtain ⟨y', ey, ry⟩ := hl.get hz
    rw [hy] at ey
    cases ey
    refine hg xs[k] i (Z.pin F1) F H σ y (O i) cc ((f xs[k]).mono cc.pin ry) _ fun σ' c' _ => ?_
    exact body k xs[k] i F1 F H σ' _ hx p c' fun j F' H' σ'' pj cj => ⟨j, F', pj, cj⟩
  · rintro σ H ⟨i, F, p, cc⟩
    rw [hlen] at p
    exact hd i F H σ p (cc.unpin c1.pin)
end
end Y

namespace Y
open PySem L2 PySem.Spec
open PyProof.Rows (envOfC)
open C8 (tCut pss_cut)
/-! ## a def of the text, and its promise -/
/-- where the text's def st stands -/
structure Tx (K : PySem.W.Frag) (mg : Str → Option Value) (x : Str) (st : Stmt) (ps : List Str) : Prop where
  ex : ∃ f fd, Fun K x x st f fd ∧ mg x = some (.ref f) ∧ Binds K fd ps []
structure Dn (P : Program) (w : World) (K : PySem.W.Frag) (mg : Str → Option Value) (base : Heap) (k : Nat) (x : Str) (ps : List Str) (sp : Sp) : Prop where
  ex : ∃ f fd, mg x = some (.ref f) ∧ PySem.W.keepIn K (.ref f) = true ∧ Binds K fd ps [] ∧ (∃ oc od osl, K.lookup f = some ⟨oc, od, .func fd, osl⟩) ∧ FnOk P w K mg base (L2.CX P w) k f fd ps sp
section
variable {P : Program} {w : World} {K : PySem.W.Frag} {mg : Str → Option Value} {base : Heap}
theorem Tx.okX {x : Str} {st : Stmt} {N ps : List Str} {k : Nat} {sp : Sp} (T : Tx K mg x st ps) (S : FnScope N ps (defScope st)) (len : ∀ vs H Q E, sp vs H Q E → vs.length = ps.length)
    (hbody : ∀ (f : Addr) (cdv : Value) (A : Around) (outer : List Env) (s : Shared) (H : Hp) (vs : List V) (Q : VK) (E : XK), Room k (A.deeper (envOfC x (defScope st) s.heap.objs.size f cdv)) → sp vs H Q E →
      ∃ t, PSs (cxOf (L2.CX P w) P w K mg base N x (defScope st) f cdv A outer s H E) (defBody st) t ∧ t { nx := fun _ H' => Q .non H', rt := Q } (L2.start N vs) H) : Dn P w K mg base (k + 1) x ps sp := by
  obtain ⟨f, fd, F, m, b⟩ := T.ex
  have F' := F
  obtain ⟨oc, od, kV, doc, pm, an, cdv, ct, osl, _, lk, hcd⟩ := F.ex
  exact ⟨f, fd, m, F'.kp, b, ⟨oc, od, osl, lk⟩, F'.okX S len (hbody f)⟩
theorem FnOk_x {k : Nat} {f : Addr} {fd : FuncData} {ps : List Str} {sp : Sp} (F : FnOk P w K mg base CX0 k f fd ps sp) : FnOk P w K mg base (L2.CX P w) k f fd ps sp :=
  ⟨F.len, fun A outer s H args us vs Q E hr he hb hv hs => codeAny_mono (F.run A outer s H args us vs Q E hr he hb hv hs) fun r s' hq => by
    cases r with
    | error e => exact False.elim hq
    | ok fl =>
      cases fl with
      | ret u => exact hq
      | next => exact hq
      | brk => exact hq
      | cont => exact hq⟩
/-- a def that lets nothing out -/
theorem Tx.ok {x : Str} {st : Stmt} {N ps : List Str} {k : Nat} {sp : Sp} (T : Tx K mg x st ps) (S : FnScope N ps (defScope st)) (len : ∀ vs H Q E, sp vs H Q E → vs.length = ps.length)
    (hbody : ∀ (f : Addr) (cdv : Value) (A : Around) (outer : List Env) (s : Shared) (H : Hp) (vs : List V) (Q : VK) (E : XK), Room k (A.deeper (envOfC x (defScope st) s.heap.objs.size f cdv)) → sp vs H Q E →
      ∃ t, PSs (cxOf CX0 P w K mg base N x (defScope st) f cdv A outer s H E).nox (defBody st) t ∧ t { nx := fun _ H' => Q .non H', rt := Q } (L2.start N vs) H) : Dn P w K mg base (k + 1) x ps sp := by
  obtain ⟨f, fd, F, m, b⟩ := T.ex
  have F' := F
  obtain ⟨oc, od, kV, doc, pm, an, cdv, ct, osl, _, lk, hcd⟩ := F.ex
  exact ⟨f, fd, m, F'.kp, b, ⟨oc, od, osl, lk⟩, FnOk_x (F'.ok S len (hbody f))⟩
theorem law_end {k : Nat} {x : Str} {ps : List Str} {sp : Sp} (D : Dn P w K mg base k x ps sp) {f : Addr} {fd : FuncData} {oc : Value} {od : Option Addr} {osl : Array (Option Value)} (m : mg x = some (.ref f)) (l : K.lookup f = some ⟨oc, od, .func fd, osl⟩) :
    FnOk P w K mg base (L2.CX P w) k f fd ps sp := by
  obtain ⟨f', fd', m', _, _, ⟨oc', od', osl', l'⟩, h⟩ := D.ex
  rw [m] at m'
  cases m'
  rw [l] at l'
  cases l'
  exact h
theorem tx_mk {x : Str} {st : Stmt} {f : Addr} {oc : Value} {od an : Option Addr} {osl : Array (Option Value)} {kV doc pm cdv ct : Value} {ps : List Str} {h : Heap} (X : K.In h) (G : h.Ns mainGlobals mg)
    (a : PySem.W.nsIn K mainGlobals x = some (some (.ref f)))
    (l : K.lookup f = some ⟨oc, od, .func (PySem.W.fnOf x x (defArgs st) (defBody st) (defScope st) .none kV doc pm an cdv ct), osl⟩)
    (c : PySem.W.codeIn K cdv x = true) (k : PySem.W.keepIn K (.ref f) = true)
    (hb : ∀ (kV doc pm : Value) (an : Option Addr) (cdv ct : Value) (us : List Value), us.length = ps.length → bindArgs (PySem.W.fnOf x x (defArgs st) (defBody st) (defScope st) .none kV doc pm an cdv ct) ⟨us, []⟩ = pure (ps.zip us)) : Tx K mg x st ps :=
  ⟨f, _, fun_mk l c k, PySem.W.mg_of X G a, (fun_mk l c k).binds hb⟩
section
variable {X : Cx} {k : Nat} {ps : List Str} {sp : Sp} {x : Str} {p pos : Pos} {e : Expr} {es : List Expr} {t : TA}
theorem pe_d (D : Dn X.prog X.w X.K X.mg X.base k x ps sp) (hr : Room k X.A) (hg : Gl X x) (ha : PA X (e :: es) t) (hdb : (x == ("__debug__" : Str)) = false := by decide)
    (he : starEach (e :: es) X.env = (false, eval e X.env) :: starEach es X.env := by rfl) (hpl : (backTo pos (starEach es X.env)).any (·.1) = false := by rfl) :
    PE X (.Call (.Name x p) (e :: es) [] pos) (tCall sp [] E0 t) := by
  obtain ⟨f, fd, m, kp, b, _, G⟩ := D.ex
  exact pe_call G hr hg m kp b .nil passL ha hdb he hpl
theorem pe_d0 (D : Dn X.prog X.w X.K X.mg X.base k x ps sp) (hr : Room k X.A) (hg : Gl X x) (hdb : (x == ("__debug__" : Str)) = false := by decide) :
    PE X (.Call (.Name x p) [] [] pos) (tCall sp [] E0 tNil) := by
  obtain ⟨f, fd, m, kp, b, _, G⟩ := D.ex
  exact pe_call0 G hr hg m kp b .nil passL hdb
end
section
variable {X : Cx} {k : Nat} {ps : List Str} {sp : Sp} {x : Str} {p pos : Pos} {e : Expr} {es : List Expr} {t : TA} {W : WX}
/-- a call that may raise, in a def (or a try) that lets it out (or takes it) -/
theorem pe_dS (tk : Takes X W) (D : Dn X.prog X.w X.K X.mg X.base k x ps sp) (hr : Room k X.A) (hg : Gl X x) (ha : PA X (e :: es) t) (hdb : (x == ("__debug__" : Str)) = false := by decide)
    (he : starEach (e :: es) X.env = (false, eval e X.env) :: starEach es X.env := by rfl) (hpl : (backTo pos (starEach es X.env)).any (·.1) = false := by rfl) :
    PE X (.Call (.Name x p) (e :: es) [] pos) (tCallS sp (WE W) t) := by
  obtain ⟨f, fd, m, kp, b, _, G⟩ := D.ex
  exact pe_callS G hr hg m kp b (fun σ => passAt tk σ) ha hdb he hpl
end
end
/-! ## what raises -/
def CtE {α : Type} (args : α → List As) (pre : α → Prop) (res : α → As) (good : α → Prop) (C : Addr) : Sp := fun vs H Q E =>
  ∃ a F, Same F H ∧ All F (args a) vs ∧ pre a ∧ (good a → ∀ v F' H', Ext [] F H F' H' → Same F' H' → (res a).p F' v → Q v H') ∧ (¬ good a → ∀ F' H', Ext [] F H F' H' → Same F' H' → E (.ref C) none H')
theorem CtE.len {α : Type} {args : α → List As} {pre good : α → Prop} {res : α → As} {C : Addr} {n : Nat} (h : ∀ a, (args a).length = n) : ∀ vs H Q E, CtE args pre res good C vs H Q E → vs.length = n := by
  rintro vs H Q E ⟨a, F, _, ha, _⟩
  rw [ha.length, h]
section
variable {Γ : Gm} {Ω : Om} {te ta tb : TE}
theorem ev_callE {α : Type} {args : α → List As} {pre good : α → Prop} {res : α → As} {C : Addr} {E : XK} {ta : TA} (a : α) (h : EvA Γ Ω ta (args a)) (hp : pre a) (hg : good a) : Ev Γ Ω (tCall (CtE args pre res good C) [] E ta) (res a) := fun Z F H σ c Q q =>
  h Z F H σ c _ fun vs F1 H1 c1 s1 rs => ⟨a, F1, c1.sub, by rw [List.append_nil]; exact rs, hp, fun _ v F2 H2 e2 s2 r => q v F2 H2 (c1.step e2 s2) (s1.trans e2) r, fun n => absurd hg n⟩

instance (i j : Int) : Decidable (CPow i j) := inferInstanceAs (Decidable (_ ∧ _ ∧ _))
instance (i j : Int) : Decidable (CMulW i j) := inferInstanceAs (Decidable (_ < _))
instance (i j : Int) : Decidable (CDivW i j) := inferInstanceAs (Decidable (_ ∧ _))
/-- return f(..), f one that may raise -/
theorem st_retE {α : Type} {args : α → List As} {pre good : α → Prop} {res : α → As} {C : Addr} {W : St → XK} {ta : TA} {Z : Bs} {F H : Hp} {σ : L2.St} {n : L2.St → Hp → Prop} {r : VK} {bk ct : L2.St → Hp → Prop} (a : α) (c : Ctx Z F H σ Γ Ω) (h : EvA Γ Ω ta (args a)) (hp : pre a)
    (k1 : good a → ∀ v F' H', Ctx Z F' H' σ Γ Ω → Same F F' → (res a).p F' v → r v H') (k2 : ¬ good a → ∀ F' H', Ctx Z F' H' σ Γ Ω → Same F F' → W σ (.ref C) none H') : tRet (tCallS (CtE args pre res good C) W ta) ⟨n, r, bk, ct⟩ σ H :=
  h Z F H σ c _ fun vs F1 H1 c1 s1 rs => ⟨a, F1, c1.sub, rs, hp, fun g v F2 H2 e2 s2 rv => k1 g v F2 H2 (c1.step e2 s2) (s1.fe.trans e2.fe) rv, fun g F2 H2 e2 s2 => k2 g F2 H2 (c1.step e2 s2) (s1.fe.trans e2.fe)⟩
/-! ## ints in bounds -/
def Bt (n : Nat) (x : Int) : Prop := x.natAbs < 2 ^ n
theorem Bt.up {n m : Nat} {x : Int} (h : Bt n x) (l : n ≤ m) : Bt m x := Nat.lt_of_lt_of_le h (Nat.pow_le_pow_right (by decide) l)
theorem Bt.mul {n m : Nat} {x y : Int} (h : Bt n x) (k : Bt m y) : Bt (n + m) (x * y) := wide_lt h k
theorem Bt.add {n : Nat} {x y : Int} (h : Bt n x) (k : Bt n y) : Bt (n + 1) (x + y) := by
  unfold Bt at *
  rw [Nat.pow_succ]
  omega
theorem Bt.sub {n : Nat} {x y : Int} (h : Bt n x) (k : Bt n y) : Bt (n + 1) (x - y) := by
  unfold Bt at *
  rw [Nat.pow_succ]
  omega
theorem Bt.zero {n : Nat} : Bt n 0 := by unfold Bt; exact Nat.pow_pos (by decide)
theorem Bt.neg {n : Nat} {x : Int} (h : Bt n x) : Bt n (0 - x) := by unfold Bt at *; omega
theorem Bt.le {n : Nat} {x y : Int} (h : Bt n y) (l : x.natAbs ≤ y.natAbs) : Bt n x := Nat.lt_of_le_of_lt l h
theorem Bt.mulW {n m : Nat} {x y : Int} (h : Bt n x) (k : Bt m y) (l : n + m ≤ 900000 := by decide) : CMulW x y := by
  have h' := h.up (Nat.le_succ n)
  have k' := k.up (Nat.le_succ m)
  exact wide_mul h' k' (Nat.succ_pos _) (Nat.succ_pos _) (by omega)
theorem Bt.divW {n : Nat} {x y : Int} (h : 0 < y) (k : Bt n y) (l : n ≤ 8999 := by decide) : CDivW x y := wide_div h (k.up (Nat.le_succ n)) (Nat.succ_pos _) (by omega)

theorem All.one {F : Hp} {R : As} : ∀ {vs : List V}, All F [R] vs → ∃ v, vs = [v] ∧ R.p F v
  | [], h => h.elim
  | [v], h => ⟨v, rfl, h.1⟩
  | _ :: _ :: _, h => h.2.elim
theorem All.two {F : Hp} {R R' : As} : ∀ {vs : List V}, All F [R, R'] vs → ∃ v w, vs = [v, w] ∧ R.p F v ∧ R'.p F w
  | [], h => h.elim
  | [_], h => h.2.elim
  | [v, w], h => ⟨v, w, rfl, h.1, h.2.1⟩
  | _ :: _ :: _ :: _, h => h.2.2.elim
theorem Bt.divP {n : Nat} {x y : Int} (h : 0 < y) (k : Bt n y) (l : n ≤ 8999 := by decide) : CDivP x y := ⟨h, PyProof.noPylong_of_log2 (Bt.divW (x := x) h k l).2⟩
/-! ## built-ins by values -/
theorem rc_abs {n : Int} : RC (fun xs H Q => ∃ i, xs = [.int i] ∧ Q (.int (if i < 0 then -i else i)) H) [I n] (I (n.natAbs : Int)) := fun F H vs s h Q q => by
    obtain ⟨v, rfl, e⟩ := h.one
    cases e
    refine ⟨n, rfl, ?_⟩
    have z : (if n < 0 then -n else n) = (n.natAbs : Int) := by split <;> omega
    rw [z]
    exact q _ F H (Ext.refl _ _ _) s rfl
theorem rc_lenL {K : PySem.W.Frag} {Rs : List As} : RC (fun xs H Q => ∃ p ys, xs = [.ref p] ∧ (SqL K H p ys ∨ SqT K H p ys) ∧ Q (.int ys.length) H) [Ls K Rs] (I (Rs.length : Int)) := fun F H vs s h Q q => by
    obtain ⟨v, rfl, a, xs, e, hs, hl⟩ := h.one
    cases e
    have z := hl.length
    exact ⟨a, xs, rfl, .inl (s.seq hs), by rw [z]; exact q _ F H (Ext.refl _ _ _) s rfl⟩
theorem rc_lenT {K : PySem.W.Frag} {Rs : List As} : RC (fun xs H Q => ∃ p ys, xs = [.ref p] ∧ (SqL K H p ys ∨ SqT K H p ys) ∧ Q (.int ys.length) H) [Tp K Rs] (I (Rs.length : Int)) := fun F H vs s h Q q => by
    obtain ⟨v, rfl, a, xs, e, hs, hl⟩ := h.one
    cases e
    have z := hl.length
    exact ⟨a, xs, rfl, .inr (same_seqT s hs), by rw [z]; exact q _ F H (Ext.refl _ _ _) s rfl⟩
theorem rc_divmod {K : PySem.W.Frag} {C : Int → Int → Prop} {i j : Int} (h : C i j) : RC (fun xs H Q => ∃ i j, xs = [.int i, .int j] ∧ C i j ∧ ∀ p, H p = none → Q (.ref p) (upd H p (.tup [.int (i / j), .int (i % j)]))) [I i, I j] (Tp K [I (i / j), I (i % j)]) := fun F H vs s hv Q q => by
    obtain ⟨v, w, rfl, e, e'⟩ := hv.two
    cases e; cases e'
    refine ⟨i, j, rfl, h, fun p hp => ?_⟩
    obtain ⟨e, s'⟩ := Ext.new (o := .tup [.int (i / j), .int (i % j)]) s hp
    exact q _ _ _ e s' ⟨p, _, rfl, SqT.of upd_same, rfl, rfl, trivial⟩
/-! isinstance -/
/-- the type of what an assertion tells of -/
structure HasTy (K : PySem.W.Frag) (R : As) (t : Value) : Prop where
  ty : ∀ F H v, Same F H → R.p F v → TyX K H v t
theorem ty_int {K : PySem.W.Frag} {n : Int} : HasTy K (I n) (.type "int") := ⟨fun F H v s e => by cases e; exact .base (.int n)⟩
theorem ty_bool {K : PySem.W.Frag} {n : Bool} : HasTy K (B n) (.type "bool") := ⟨fun F H v s e => by cases e; exact .base (.bl n)⟩
theorem ty_tup {K : PySem.W.Frag} {Rs : List As} : HasTy K (Tp K Rs) (.type "tuple") := ⟨fun F H v s e => by
  obtain ⟨a, xs, e, hs, _⟩ := e
  cases e
  rcases hs with (h | ⟨o, h⟩) | ⟨o, its, n, h, hc, _⟩
  · exact .base (.tup (s _ _ h))
  · exact .fTuple (s _ _ h)
  · exact .kTuple h hc⟩
theorem ty_lst {K : PySem.W.Frag} {Rs : List As} : HasTy K (Ls K Rs) (.type "list") := ⟨fun F H v s e => by
  obtain ⟨a, xs, e, hs, _⟩ := e
  cases e
  rcases hs with (h | ⟨o, h⟩) | ⟨o, its, n, h, hc, _⟩
  · exact .base (.lst (s _ _ h))
  · exact .base (.frz (s _ _ h))
  · exact .kList h hc⟩
theorem rc_isi {K : PySem.W.Frag} {R : As} {t u : Value} {c : V} {b : Bool} (hc : ClsV c u) (ht : HasTy K R t) (hk : PySem.W.kitOne K t u = some b) : RC (rIsi K) [R, Cst c] (B b) := fun F H vs s h Q q => by
    obtain ⟨x, y, rfl, r, e⟩ := h.two
    cases e
    exact ⟨x, c, t, u, b, rfl, hc, ht.ty F H x s r, hk, q _ F H (Ext.refl _ _ _) s rfl⟩

theorem rc_list {K : PySem.W.Frag} {Rs : List As} : RC (fun xs H Q => ∃ p ys, xs = [.ref p] ∧ (SqL K H p ys ∨ SqT K H p ys) ∧ ∀ l, H l = none → Q (.ref l) (upd H l (.lst ys))) [Ls K Rs] (Ls K Rs) := fun F H vs s h Q q => by
  obtain ⟨v, rfl, a, xs, e, hs, hl⟩ := h.one
  cases e
  refine ⟨a, xs, rfl, .inl (s.seq hs), fun p hp => ?_⟩
  obtain ⟨e, s'⟩ := Ext.new (o := .lst xs) s hp
  exact q _ _ _ e s' ⟨p, _, rfl, SqL.of upd_same, hl.mono e.fe⟩
/-! pairs of ints, fractions -/
def Fr (K : PySem.W.Frag) (q : Int × Int) : As := Tp K [I q.1, I q.2]
theorem ev_fr {K : PySem.W.Frag} {ta : TA} {a b : Int} (h : EvA Γ Ω ta [I a, I b]) : Ev Γ Ω (tTup ta) (Fr K (a, b)) := ev_tup h (show 2 ≤ 1000 by decide)
theorem ty_fr {K : PySem.W.Frag} {q : Int × Int} : HasTy K (Fr K q) (.type "tuple") := ty_tup
theorem rc_lenF {K : PySem.W.Frag} {q : Int × Int} : RC (fun xs H Q => ∃ p ys, xs = [.ref p] ∧ (SqL K H p ys ∨ SqT K H p ys) ∧ Q (.int ys.length) H) [Fr K q] (I 2) := rc_lenT
/-! tests by chains -/
theorem ev_chain {p1 p2 : Int → Int → Bool} {i j k : Int} {tc : TE} (ha : Ev Γ Ω ta (I i)) (hb : Ev Γ Ω tb (I j)) (hc : Ev Γ Ω tc (I k)) : Ev Γ Ω (tChain (rI0 fun i j => .bl (p1 i j)) (rI0 fun i j => .bl (p2 i j)) ta tb tc) (B (p1 i j && p2 j k)) := fun Z F H σ c Q q =>
  ha Z F H σ c _ fun x F1 H1 c1 s1 rx => hb Z F1 H1 σ c1 _ fun y F2 H2 c2 s2 ry => by
    cases rx; cases ry
    refine ⟨i, j, rfl, rfl, p1 i j, rfl, ?_⟩
    cases e : p1 i j with
    | true =>
      refine iteT (hc Z F2 H2 σ c2 _ fun z F3 H3 c3 s3 rz => ?_)
      cases rz
      exact ⟨j, k, rfl, rfl, q _ F3 H3 c3 (s1.trans (s2.trans s3)) (show V.bl (p2 j k) = V.bl (p1 i j && p2 j k) by rw [e]; rfl)⟩
    | false => exact iteF (q _ F2 H2 c2 (s1.trans s2) (show V.bl false = V.bl (p1 i j && p2 j k) by rw [e]; rfl))
theorem et_chain {p1 p2 : Int → Int → Bool} {i j k : Int} {tc : TE} (ha : Ev Γ Ω ta (I i)) (hb : Ev Γ Ω tb (I j)) (hc : Ev Γ Ω tc (I k)) : EvT Γ Ω (tTest (tChain (rI0 fun i j => .bl (p1 i j)) (rI0 fun i j => .bl (p2 i j)) ta tb tc)) (p1 i j && p2 j k) := et_test (ev_chain ha hb hc)
end
/-! ## blocks -/
section
variable {Z : Bs} {F H F' H' : Hp} {σ σ' : L2.St} {Γ Γ' : Gm} {Ω Ω' : Om} {K : PySem.W.Frag} {n : L2.St → Hp → Prop} {r : VK} {bk ct : L2.St → Hp → Prop} {t1 t2 : TS}
theorem sq (h : t1 ⟨t2 ⟨n, r, bk, ct⟩, r, bk, ct⟩ σ H) : tSeq t1 t2 ⟨n, r, bk, ct⟩ σ H := h
theorem cut {ι : Type} (c : Ctx Z F H σ Γ Ω) (G : ι → Gm) (O : ι → Om) (P : ι → Prop) (h1 : ∀ N : L2.St → Hp → Prop, (∀ i F' H' σ', P i → Ctx Z F' H' σ' (G i) (O i) → N σ' H') → t1 ⟨N, r, bk, ct⟩ σ H) (h2 : ∀ i F' H' σ', P i → Ctx Z F' H' σ' (G i) (O i) → t2 ⟨n, r, bk, ct⟩ σ' H') : tCut t1 t2 ⟨n, r, bk, ct⟩ σ H :=
  ⟨fun σ H => ∃ i F, P i ∧ Ctx Z F H σ (G i) (O i), h1 _ fun i F' H' σ' p c => ⟨i, F', p, c⟩, fun σ H ⟨i, F, p, c⟩ => h2 i F H σ p c⟩
/-- what is known of a slot is some member of a family -/
theorem Ctx.opn {β : Type} {P : β → Prop} {R : β → As} (c : Ctx Z F H σ Γ Ω) (i : Nat) (h : Γ[i]? = some (some (Xs P R))) : ∃ b, P b ∧ Ctx Z F H σ (Γ.set i (some (R b))) Ω := by
  obtain ⟨v, e, b, hp, hr⟩ := c.sat.get h
  have z := c.set i hr
  have e2 : σ.set i (some v) = σ := by
    apply List.ext_getElem?
    intro j
    by_cases hj : i = j
    · subst hj
      rw [List.getElem?_set_self (by have := (List.getElem?_eq_some_iff.mp e).1; exact this), e]
    · rw [List.getElem?_set_ne hj]
  rw [e2] at z
  exact ⟨b, hp, z⟩
theorem nxt (q : n σ H) : tNext ⟨n, r, bk, ct⟩ σ H := q
/-- an error of the text's own, made with a text -/
structure Xc (K : PySem.W.Frag) (mg : Str → Option Value) (C : Addr) (x : Str) : Prop where
  gC : mg x = some (.ref C)
  ex : PySem.W.excIn K C [.type "ValueError", .type "Exception", .type "BaseException", .type "object"] "ValueError.__new__" = true
  kC : PySem.W.keepIn K (.ref C) = true
  sB : PySem.W.subIn K (.ref C) (.type "BaseException") = some true
  tC : PySem.W.typeIn K (.ref C) = some (.type "type")
  iC : PySem.W.isClsIn K C = true
  sC : PySem.W.subIn K (.ref C) (.ref C) = some true
/-- an except clause that names an error's own class takes it -/
theorem exm_own {K : PySem.W.Frag} {S T : Addr} {b : Bool} (h1 : PySem.W.subIn K (.ref S) (.type "BaseException") = some true) (h1' : PySem.W.subIn K (.ref T) (.type "BaseException") = some true) (h2 : PySem.W.isClsIn K T = true) (h3 : PySem.W.typeIn K (.ref T) = some (.type "type")) (h4 : PySem.W.subIn K (.ref S) (.ref T) = some b) :
    PySem.W.exmOne K (.ref S) (.ref T) = some b := by
  have e1 : (PySem.W.subIn K (.ref T) (.type "BaseException") == some true) = true := by rw [h1'] <;> rfl
  have e2 : ((PySem.W.clsIn K T).isSome && PySem.W.typeIn K (.ref T) == some (.type "type")) = true := by
    have h2' : (PySem.W.clsIn K T).isSome = true := h2
    rw [h2', h3] <;> rfl
  show (if (PySem.W.subIn K (.ref T) (.type "BaseException") == some true) = true then (if ((PySem.W.clsIn K T).isSome && PySem.W.typeIn K (.ref T) == some (.type "type")) = true then PySem.W.subIn K (.ref S) (.ref T) else none) else none) = some b
  rw [if_pos e1, if_pos e2]
  exact h4
theorem st_tryset {α : Type} {args : α → List As} {pre good : α → Prop} {res : α → As} {C : Addr} {cl : Value} {ta : TA} {ts : Addr → Value → Option Addr → TS} {Wout : WX} {i : Nat} (a : α) (c : Ctx Z F H σ Γ Ω) (h : EvA Γ Ω ta (args a)) (hp : pre a) (te : PySem.W.exmOne K (.ref C) cl = some true)
    (k1 : good a → ∀ F' H' σ', Ctx Z F' H' σ' (Γ.set i (some (res a))) Ω → Same F F' → n σ' H') (k2 : ¬ good a → ∀ a0 F' H', Ctx Z F' H' σ Γ Ω → Same F F' → ts a0 (.ref C) none ⟨n, r, bk, ct⟩ σ H') :
    tAsg (tCallS (CtE args pre res good C) (WE (wOnly K cl ts Wout ⟨n, r, bk, ct⟩)) ta) (gName i) ⟨n, r, bk, ct⟩ σ H :=
  h Z F H σ c _ fun vs F1 H1 c1 s1 rs => ⟨a, F1, c1.sub, rs, hp, fun g v F2 H2 e2 s2 rv => k1 g F2 H2 _ ((c1.step e2 s2).set i rv) (s1.fe.trans e2.fe), fun g F2 H2 e2 s2 => ⟨true, te, fun _ a0 _ => k2 g a0 F2 H2 (c1.step e2 s2) (s1.fe.trans e2.fe), fun z => Bool.noConfusion z⟩⟩
end
theorem ev_k {Γ : Gm} {Ω : Om} {te : TE} {m n : Int} (h : Ev Γ Ω te (I m)) (e : m = n) : Ev Γ Ω te (I n) := e ▸ h
/-! ## the law -/
def LawSp (K : PySem.W.Frag) : Sp := CtF (fun ns : List Int => [Ls K (ns.map fun n => I n)]) (fun ns => ns.length ≤ 63) (fun _ => B true)
theorem all_ints {F : Hp} : ∀ ns : List Int, All F (ns.map fun n => I n) (ns.map V.int)
  | [] => trivial
  | _ :: r => ⟨rfl, all_ints r⟩
theorem law_start {K : PySem.W.Frag} {H : Hp} {a : Addr} {ns : List Int} (hl : ns.length ≤ 63) (hS : SqL K H a (ns.map V.int)) : LawSp K [.ref a] H (fun v _ => v = .bl true) (fun _ _ _ => False) :=
  ⟨ns, H, Same.refl H, ⟨⟨a, _, rfl, hS, all_ints ns⟩, trivial⟩, hl, fun v F' H' _ _ r => r⟩
end Y

namespace Y
open PySem L2
theorem gcd_turn {x y : Int} (hx : 0 ≤ x) (hy : 0 < y) : Int.gcd y (x % y) = Int.gcd x y := by
  obtain ⟨a, rfl⟩ := Int.eq_ofNat_of_zero_le hx
  obtain ⟨b, rfl⟩ := Int.eq_ofNat_of_zero_le (Int.le_of_lt hy)
  show Nat.gcd b (a % b) = Nat.gcd a b
  rw [Nat.gcd_comm b (a % b), ← Nat.gcd_rec, Nat.gcd_comm]
/-- the cell that a law draws by -/
def cell (ns : List Int) (k : Int) : Int := if k < (ns.length : Int) then ns.getD k.toNat 0 else 0
theorem atI_ints {ns : List Int} {k : Int} (h0 : 0 ≤ k) (h : k < (ns.length : Int)) : atI (ns.map fun n => I n) k = some (I (cell ns k)) := by
  have hk : k.toNat < ns.length := by omega
  have ek : k = ((k.toNat : Nat) : Int) := by omega
  have z : cell ns k = ns[k.toNat] := by
    unfold cell
    rw [if_pos h, List.getD_eq_getElem?_getD, List.getElem?_eq_getElem hk]; rfl
  rw [z]
  generalize hj : k.toNat = j at hk ek
  subst ek
  refine (atI_nat (xs := ns.map fun n => I n) (by rw [List.getElem?_map, List.getElem?_eq_getElem hk]; rfl)).trans ?_
  simp only [hj]
theorem bt_one (n : Nat) : Bt (n + 1) 1 := Nat.one_lt_two_pow (Nat.succ_ne_zero n)
theorem gcd_bt {x y : Int} {n : Nat} (h : Bt n y) (hy : y ≠ 0) : Bt n (Int.gcd x y : Int) := by
  have e := Nat.le_of_dvd (Int.natAbs_pos.mpr hy) (Int.natAbs_dvd_natAbs.mpr (Int.gcd_dvd_right x y))
  exact h.le e
theorem gcd_pos {x y : Int} (hy : y ≠ 0) : (0 : Int) < (Int.gcd x y : Int) := by
  have : Int.gcd x y ≠ 0 := fun e => hy (Int.gcd_eq_zero_iff.mp e).2
  omega
/-! fractions: a fraction is the rational number that it tells -/
def Fq (K : PySem.W.Frag) (r : Rat) : As := Fr K (r.num, (r.den : Int))
theorem ty_fq {K : PySem.W.Frag} {r : Rat} : HasTy K (Fq K r) (.type "tuple") := ty_tup
theorem rc_lenQ {K : PySem.W.Frag} {r : Rat} : RC (fun xs H Q => ∃ p ys, xs = [.ref p] ∧ (SqL K H p ys ∨ SqT K H p ys) ∧ Q (.int ys.length) H) [Fq K r] (I 2) := rc_lenT
def Sz (r : Rat) : Prop := Bt 4400 r.num ∧ Bt 4400 (r.den : Int)
theorem fr_of (t b : Int) (hb : 0 < b) : (t / (Int.gcd t b : Int), b / (Int.gcd t b : Int)) = ((Rat.divInt t b).num, ((Rat.divInt t b).den : Int)) := by
  have h1 : (Rat.divInt t b).num = t / (Int.gcd t b : Int) := by rw [Rat.num_divInt, Int.sign_eq_one_of_pos hb, Int.one_mul, Int.gcd_comm]
  have h2 : ((Rat.divInt t b).den : Int) = b / (Int.gcd t b : Int) := by
    rw [Rat.den_divInt, if_neg (by omega), Int.gcd_comm]
    rw [Int.natCast_ediv, Int.natAbs_of_nonneg (by omega)]
  rw [h1, h2]
theorem fr_neg (t b : Int) (hb : b < 0) : ((0 - t) / (Int.gcd (0 - t) (0 - b) : Int), (0 - b) / (Int.gcd (0 - t) (0 - b) : Int)) = ((Rat.divInt t b).num, ((Rat.divInt t b).den : Int)) := by
  have e : Rat.divInt t b = Rat.divInt (0 - t) (0 - b) := by rw [Int.zero_sub, Int.zero_sub, Rat.neg_divInt_neg]
  rw [e]
  exact fr_of _ _ (by omega)
theorem r_den0 (a : Rat) : (a.den : Int) ≠ 0 := by have := a.den_nz; omega
theorem r_den1 (a : Rat) : (0 : Int) < a.den := by have := a.den_nz; omega
theorem r_add (a b : Rat) : Rat.divInt (a.num * b.den + b.num * a.den) (a.den * b.den) = a + b := by
  have := Rat.divInt_add_divInt a.num b.num (r_den0 a) (r_den0 b)
  rw [← this, Rat.num_divInt_den, Rat.num_divInt_den]
theorem r_sub (a b : Rat) : Rat.divInt (a.num * b.den - b.num * a.den) (a.den * b.den) = a - b := by
  have := Rat.divInt_sub_divInt a.num b.num (r_den0 a) (r_den0 b)
  rw [← this, Rat.num_divInt_den, Rat.num_divInt_den]
theorem r_mul (a b : Rat) : Rat.divInt (a.num * b.num) (a.den * b.den) = a * b := by
  have := Rat.divInt_mul_divInt a.num b.num (d₁ := a.den) (d₂ := b.den)
  rw [← this, Rat.num_divInt_den, Rat.num_divInt_den]
theorem r_div (a b : Rat) : Rat.divInt (a.num * b.den) (a.den * b.num) = a / b := by
  have := Rat.divInt_mul_divInt a.num b.den (d₁ := a.den) (d₂ := b.num)
  rw [← this, Rat.num_divInt_den, Rat.div_def]
  congr 1
  rw [Rat.inv_def]
theorem r_lt (a b : Rat) : decide (a.num * b.den < b.num * a.den) = decide (a < b) := by simp [Rat.lt_iff]
theorem r_cross {t b : Int} (hb : b ≠ 0) : (Rat.divInt t b).num * b = t * ((Rat.divInt t b).den : Int) := (Rat.divInt_eq_divInt_iff (r_den0 _) hb).mp (Rat.num_divInt_den _)
theorem r_red (a : Rat) : Int.gcd a.num a.den = 1 := a.reduced
theorem Sz.int {n : Int} (h : Bt 4400 n) : Sz (n : Rat) := ⟨h, by show Bt 4400 1; unfold Bt; exact Nat.one_lt_two_pow (by decide)⟩
theorem bt_num {n : Nat} {t b : Int} (h : Bt n t) (hb : b ≠ 0) : Bt n (Rat.divInt t b).num := by
  rcases Int.lt_or_gt_of_ne hb with hn | hn
  · have e := congrArg Prod.fst (fr_neg t b hn)
    dsimp only at e
    rw [← e]
    exact h.neg.le (Int.natAbs_ediv_le_natAbs _ _)
  · have e := congrArg Prod.fst (fr_of t b hn)
    dsimp only at e
    rw [← e]
    exact h.le (Int.natAbs_ediv_le_natAbs _ _)
theorem bt_den {n : Nat} {t b : Int} (h : Bt n b) (hb : b ≠ 0) : Bt n ((Rat.divInt t b).den : Int) := by
  rcases Int.lt_or_gt_of_ne hb with hn | hn
  · have e := congrArg Prod.snd (fr_neg t b hn)
    dsimp only at e
    rw [← e]
    exact h.neg.le (Int.natAbs_ediv_le_natAbs _ _)
  · have e := congrArg Prod.snd (fr_of t b hn)
    dsimp only at e
    rw [← e]
    exact h.le (Int.natAbs_ediv_le_natAbs _ _)
/-- what a law builds: some fraction, not too long -/
def Bq (n : Nat) (r : Rat) : Prop := Bt n r.num ∧ Bt n (r.den : Int)
theorem Bq.sz {n : Nat} {r : Rat} (h : Bq n r) (l : n ≤ 4400 := by decide) : Sz r := ⟨h.1.up l, h.2.up l⟩
theorem Bq.up {n m : Nat} {r : Rat} (h : Bq n r) (l : n ≤ m := by decide) : Bq m r := ⟨h.1.up l, h.2.up l⟩
theorem Bq.add {n m : Nat} {a b : Rat} (h : Bq n a) (k : Bq m b) : Bq (n + m + 1) (a + b) := by
  rw [← r_add]
  have z : (a.den : Int) * b.den ≠ 0 := Int.mul_ne_zero (r_den0 a) (r_den0 b)
  have e := k.1.mul h.2
  rw [Nat.add_comm] at e
  exact ⟨bt_num ((h.1.mul k.2).add e) z, bt_den ((h.2.mul k.2).up (Nat.le_succ _)) z⟩
theorem Bq.sub {n m : Nat} {a b : Rat} (h : Bq n a) (k : Bq m b) : Bq (n + m + 1) (a - b) := by
  rw [← r_sub]
  have z : (a.den : Int) * b.den ≠ 0 := Int.mul_ne_zero (r_den0 a) (r_den0 b)
  have e := k.1.mul h.2
  rw [Nat.add_comm] at e
  exact ⟨bt_num ((h.1.mul k.2).sub e) z, bt_den ((h.2.mul k.2).up (Nat.le_succ _)) z⟩
theorem Bq.mul {n m : Nat} {a b : Rat} (h : Bq n a) (k : Bq m b) : Bq (n + m) (a * b) := by
  rw [← r_mul]
  have z : (a.den : Int) * b.den ≠ 0 := Int.mul_ne_zero (r_den0 a) (r_den0 b)
  exact ⟨bt_num (h.1.mul k.1) z, bt_den (h.2.mul k.2) z⟩
theorem Bq.div {n m : Nat} {a b : Rat} (h : Bq n a) (k : Bq m b) (hb : b ≠ 0) : Bq (n + m) (a / b) := by
  rw [← r_div]
  have z : (a.den : Int) * b.num ≠ 0 := Int.mul_ne_zero (r_den0 a) (fun e => hb (Rat.num_eq_zero.mp e))
  exact ⟨bt_num (h.1.mul k.2) z, bt_den (h.2.mul k.1) z⟩
def Sq (K : PySem.W.Frag) (n : Nat) : As := Xs (Bq n) (Fq K)
theorem sq_of {K : PySem.W.Frag} {n : Nat} {r : Rat} {F : Hp} {v : V} (h : (Fq K r).p F v) (b : Bq n r) : (Sq K n).p F v := ⟨r, b, h⟩
/-- a fraction handed out of two ints -/
theorem ev_fq {Γ : Gm} {Ω : Om} {K : PySem.W.Frag} {te : TE} {a b : Int} {r : Rat} (h : Ev Γ Ω te (Fr K (a, b))) (e : (a, b) = (r.num, (r.den : Int))) : Ev Γ Ω te (Fq K r) := by
  unfold Fq
  rw [← e]
  exact h
theorem ev_frI {Γ : Gm} {Ω : Om} {K : PySem.W.Frag} {ta : TA} {a : Int} (h : EvA Γ Ω ta [I a, I 1]) : Ev Γ Ω (tTup ta) (Fq K (a : Rat)) := ev_fr h
/-- the same fraction with the other sign -/
theorem fq_neg {K : PySem.W.Frag} {Γ : Gm} {Ω : Om} {te : TE} {x : Rat} (h : Ev Γ Ω te (Fr K (0 - x.num, (x.den : Int)))) : Ev Γ Ω te (Fq K (-x)) := ev_fq h (by
  rw [Int.zero_sub]; rfl)
theorem Bq.neg {n : Nat} {x : Rat} (h : Bq n x) : Bq n (-x) := ⟨by
  have e := h.1.neg
  rw [Int.zero_sub] at e; exact e, h.2⟩
theorem Bq.zero {n : Nat} : Bq (n + 1) 0 := ⟨Bt.zero, bt_one n⟩
end Y

namespace Y
open PySem L2
/-! ## lists: those that stand still, those that are owned -/
/-- what an owned list is known to hold -/
structure RdL (A : OA) (Rs : List As) : Prop where
  rd : ∀ F o, A.p F o → ∃ xs, o = .lst xs ∧ All F Rs xs
theorem rdL {Rs : List As} : RdL (oL Rs) Rs := ⟨fun _ _ h => h⟩
/-- just these values -/
def oX (xs : List V) (Rs : List As) : OA := ⟨fun F o => o = .lst xs ∧ All F Rs xs, fun s h => ⟨h.1, h.2.mono s⟩⟩
theorem rdX {xs : List V} {Rs : List As} : RdL (oX xs Rs) Rs := ⟨fun _ _ h => ⟨xs, h.1, h.2⟩⟩
def cutA (Rs : List As) (lo hi : Option Int) : List As := (Rs.drop (HT.sIx Rs.length 0 lo)).take (HT.sIx Rs.length Rs.length hi - HT.sIx Rs.length 0 lo)
theorem All.drop {F : Hp} : ∀ (n : Nat) {Rs : List As} {xs : List V}, All F Rs xs → All F (Rs.drop n) (xs.drop n)
  | 0, _, _, h => h
  | n + 1, [], [], _ => trivial
  | n + 1, _ :: _, _ :: _, h => All.drop n h.2
  | _ + 1, [], _ :: _, h => h.elim
  | _ + 1, _ :: _, [], h => h.elim
theorem All.take {F : Hp} : ∀ (n : Nat) {Rs : List As} {xs : List V}, All F Rs xs → All F (Rs.take n) (xs.take n)
  | 0, _, _, _ => trivial
  | n + 1, [], [], _ => trivial
  | n + 1, _ :: _, _ :: _, h => ⟨h.1, All.take n h.2⟩
  | _ + 1, [], _ :: _, h => h.elim
  | _ + 1, _ :: _, [], h => h.elim
theorem All.rev {F : Hp} : ∀ {Rs : List As} {xs : List V}, All F Rs xs → All F Rs.reverse xs.reverse
  | [], [], _ => trivial
  | R :: Rs, x :: xs, h => by
    rw [List.reverse_cons, List.reverse_cons]
    exact All.app (All.rev h.2) ⟨h.1, trivial⟩
  | [], _ :: _, h => h.elim
  | _ :: _, [], h => h.elim
section
variable {Z : Bs} {F H F' H' : Hp} {σ σ' : L2.St} {Γ Γ' : Gm} {Ω Ω' : Om} {K : PySem.W.Frag} {te ta tb : TE} {R Rx Ry : As} {Rs Ss : List As}
/-- an expression whose value is a list of such -/
def Lk (K : PySem.W.Frag) (Γ : Gm) (Ω : Om) (te : TE) (Rs : List As) : Prop := ∀ (Z : Bs) (F H : Hp) (σ : L2.St), Ctx Z F H σ Γ Ω → ∀ Q : VK, (∀ a F' H', Ctx Z F' H' σ Γ Ω → Ext [] F H F' H' → (∀ F2 H2, Ctx Z F2 H2 σ Γ Ω → Same F' F2 → ∃ xs, SqL K H2 a xs ∧ All F2 Rs xs) → Q (.ref a) H') → te σ H Q
theorem lk (h : Ev Γ Ω te (Ls K Rs)) : Lk K Γ Ω te Rs := fun Z F H σ c Q q => h Z F H σ c Q fun v F1 H1 c1 s1 r => by
  obtain ⟨a, xs, e, hs, hl⟩ := r
  subst e
  exact q a F1 H1 c1 s1 fun F2 H2 c2 s2 => ⟨xs, c2.sub.seq (s2.seq hs), hl.mono s2⟩
theorem lko {p : Addr} {A : OA} {j : Nat} (h : Ev Γ Ω te (Rf p)) (hm : Ω[j]? = some (p, A)) (hA : RdL A Rs) : Lk K Γ Ω te Rs := fun Z F H σ c Q q => h Z F H σ c Q fun v F1 H1 c1 s1 r => by
  cases r
  refine q p F1 H1 c1 s1 fun F2 H2 c2 s2 => ?_
  obtain ⟨_, o, h2, hp⟩ := c2.own _ (List.mem_of_getElem? hm)
  obtain ⟨xs, e, hl⟩ := hA.rd _ _ hp
  exact ⟨xs, SqL.of (by rw [h2, e]), hl⟩
theorem ev_ixLk {i : Int} (ha : Lk K Γ Ω ta Rs) (hb : Ev Γ Ω tb (I i)) (h : atI Rs i = some R) : Ev Γ Ω (tOp (rIxL K) ta tb) R := fun Z F H σ c Q q =>
  ha Z F H σ c _ fun a F1 H1 c1 s1 hs => hb Z F1 H1 σ c1 _ fun y F2 H2 c2 s2 ry => by
    obtain ⟨xs, hs2, hl⟩ := hs F2 H2 c2 s2.fe
    obtain ⟨v, e1, r⟩ := atI_all hl h
    exact ⟨a, xs, i, v, rfl, ry, hs2, e1, q v F2 H2 c2 (s1.trans s2) r⟩
theorem ev_lenLk (ha : Lk K Γ Ω ta Rs) : Ev Γ Ω (tCB (fun xs H Q => ∃ p ys, xs = [.ref p] ∧ (SqL K H p ys ∨ SqT K H p ys) ∧ Q (.int ys.length) H) (tCons ta tNil)) (I (Rs.length : Int)) := fun Z F H σ c Q q =>
  ha Z F H σ c _ fun a F1 H1 c1 s1 hs => by
    obtain ⟨xs, hs1, hl⟩ := hs F1 H1 c1 (Same.refl _)
    refine ⟨a, xs, rfl, .inl hs1, ?_⟩
    rw [hl.length]
    exact q _ F1 H1 c1 s1 rfl
theorem new_ls {p : Addr} {xs : List V} (c : Ctx Z F H σ Γ Ω) (hl : All F Rs xs) (hp : H p = none) : ∃ F' H', H' = upd H p (.lst xs) ∧ Ctx Z F' H' σ Γ Ω ∧ Ext [] F H F' H' ∧ (Ls K Rs).p F' (.ref p) := by
  obtain ⟨e, s⟩ := Ext.new (o := .lst xs) c.sub hp
  exact ⟨_, _, rfl, c.step e s, e, p, xs, rfl, SqL.of upd_same, hl.mono e.fe⟩
theorem ev_listLk (ha : Lk K Γ Ω ta Rs) : Ev Γ Ω (tCB (fun xs H Q => ∃ p ys, xs = [.ref p] ∧ (SqL K H p ys ∨ SqT K H p ys) ∧ ∀ l, H l = none → Q (.ref l) (upd H l (.lst ys))) (tCons ta tNil)) (Ls K Rs) := fun Z F H σ c Q q =>
  ha Z F H σ c _ fun a F1 H1 c1 s1 hs => by
    obtain ⟨xs, hs1, hl⟩ := hs F1 H1 c1 (Same.refl _)
    refine ⟨a, xs, rfl, .inl hs1, fun p hp => ?_⟩
    obtain ⟨F2, H2, e, c2, s2, r⟩ := new_ls (K := K) c1 hl hp
    rw [← e]
    exact q _ F2 H2 c2 (s1.trans s2) r
theorem ev_rev (ha : Lk K Γ Ω ta Rs) : Ev Γ Ω (tRevL K ta) (Ls K Rs.reverse) := fun Z F H σ c Q q =>
  ha Z F H σ c _ fun a F1 H1 c1 s1 hs => by
    obtain ⟨xs, hs1, hl⟩ := hs F1 H1 c1 (Same.refl _)
    refine ⟨a, xs, rfl, hs1, fun p hp => ?_⟩
    obtain ⟨F2, H2, e, c2, s2, r⟩ := new_ls (K := K) c1 hl.rev hp
    rw [← e]
    exact q _ F2 H2 c2 (s1.trans s2) r
def EvO (Γ : Gm) (Ω : Om) (to : TO) (o : Option Int) : Prop := ∀ (Z : Bs) (F H : Hp) (σ : L2.St), Ctx Z F H σ Γ Ω → ∀ Q : Option Int → Hp → Prop, (∀ F' H', Ctx Z F' H' σ Γ Ω → Ext [] F H F' H' → Q o H') → to σ H Q
theorem eo_none : EvO Γ Ω tNoPart none := fun Z F H σ c Q q => q F H c (Ext.refl _ _ _)
theorem eo_some {i : Int} (h : Ev Γ Ω te (I i)) : EvO Γ Ω (tPart te) (some i) := fun Z F H σ c Q q => h Z F H σ c _ fun v F1 H1 c1 s1 r => ⟨i, r, q F1 H1 c1 s1⟩
theorem ev_slLk {tl th : TO} {lo hi : Option Int} (ha : Lk K Γ Ω ta Rs) (h1 : EvO Γ Ω tl lo) (h2 : EvO Γ Ω th hi) : Ev Γ Ω (tSl (rSlL K) ta tl th) (Ls K (cutA Rs lo hi)) := fun Z F H σ c Q q =>
  ha Z F H σ c _ fun a F1 H1 c1 s1 hs => h1 Z F1 H1 σ c1 _ fun F2 H2 c2 s2 => h2 Z F2 H2 σ c2 _ fun F3 H3 c3 s3 => by
    obtain ⟨xs, hs1, hl⟩ := hs F3 H3 c3 (s2.trans s3).fe
    refine ⟨a, xs, rfl, hs1, fun p hp => ?_⟩
    have hz : All F3 (cutA Rs lo hi) (cutV xs lo hi) := by
      unfold cutA cutV
      rw [hl.length]
      exact (hl.drop _).take _
    obtain ⟨F4, H4, e, c4, s4, r⟩ := new_ls (K := K) c3 hz hp
    rw [← e]
    exact q _ F4 H4 c4 (s1.trans (s2.trans (s3.trans s4))) r
theorem cutA_to {α : Type} {f : α → As} {xs : List α} {k : Nat} : cutA (xs.map f) none (some (k : Int)) = (xs.take k).map f := by
  unfold cutA
  rw [HT.sIx_nat, HT.sIx_none, List.length_map, List.drop_zero, Nat.sub_zero, List.map_take]
  by_cases h : k ≤ xs.length
  · rw [Nat.min_eq_left h]
  · rw [Nat.min_eq_right (by omega), List.take_of_length_le (by rw [List.length_map]; omega), List.take_of_length_le (by rw [List.length_map]; omega)]
theorem cutA_most {α : Type} {f : α → As} {xs : List α} : cutA (xs.map f) none (some (-1)) = xs.dropLast.map f := by
  unfold cutA HT.sIx
  simp only [List.length_map, List.drop_zero, Nat.sub_zero]
  rw [if_pos (by decide), List.dropLast_eq_take, ← List.map_take]
  congr 2
  omega
end
/-! ## lists that are made and grow -/
section
variable {Z : Bs} {F H F' H' : Hp} {σ σ' : L2.St} {Γ Γ' : Gm} {Ω Ω' : Om} {K : PySem.W.Frag} {te ta tb : TE} {R Rx Ry : As} {Rs Ss : List As} {n : L2.St → Hp → Prop} {r : VK} {bk ct : L2.St → Hp → Prop}
theorem Ctx.grow {p : Addr} {o : HO} {A : OA} (c : Ctx Z F H σ Γ Ω) (hp : H p = none) (hA : A.p F o) : Ctx Z F (upd H p o) σ Γ ((p, A) :: Ω) := by
  have e := Ext.newH (F := F) (o := o) hp
  have hf : F p = none := c.sub.free hp
  have np : ∀ x ∈ Ω, x.1 ≠ p := fun x hx z => by
    obtain ⟨_, o', h2, _⟩ := c.own x hx
    rw [z, hp] at h2
    cases h2
  refine ⟨c.sat, fun a u q => ?_, fun x hx => ?_, ?_, fun x hx => ?_, c.ext.trans (e.wid fun _ h => absurd h List.not_mem_nil), c.pin⟩
  · rw [upd_ne (ne_of_none q hf)]
    exact c.sub a u q
  · rcases List.mem_cons.mp hx with z | hx
    · subst z
      exact ⟨hf, o, upd_same, hA⟩
    · obtain ⟨h1, o', h2, h3⟩ := c.own x hx
      exact ⟨h1, o', by rw [upd_ne (np x hx)]; exact h2, h3⟩
  · rw [List.map_cons, List.nodup_cons]
    refine ⟨fun hx => ?_, c.nd⟩
    obtain ⟨x, hx, z⟩ := List.mem_map.mp hx
    exact np x hx z
  · rcases List.mem_cons.mp hx with z | hx
    · subst z
      exact .inr (c.ext.dm _ hp)
    · exact c.loc x hx
/-- what is owned changes -/
theorem Ctx.chg {p : Addr} {o : HO} {A A' : OA} {j : Nat} (c : Ctx Z F H σ Γ Ω) (hm : Ω[j]? = some (p, A)) (hA : A'.p F o) : Ctx Z F (upd H p o) σ Γ (Ω.set j (p, A')) := by
  have hmem := List.mem_of_getElem? hm
  have hj : j < Ω.length := (List.getElem?_eq_some_iff.mp hm).1
  obtain ⟨hf, o0, h0, _⟩ := c.own _ hmem
  have other : ∀ (i : Nat) (x : Addr × OA), i ≠ j → Ω[i]? = some x → x.1 ≠ p := fun i x hi hx z => by
    have a1 : (Ω.map (·.1))[i]? = some p := by rw [List.getElem?_map, hx, ← z]; rfl
    have a2 : (Ω.map (·.1))[j]? = some p := by rw [List.getElem?_map, hm]; rfl
    exact hi (nd_ix c.nd a1 a2)
  have look : ∀ x ∈ Ω.set j (p, A'), x = (p, A') ∨ (x ∈ Ω ∧ x.1 ≠ p) := fun x hx => by
    obtain ⟨i, hi⟩ := List.getElem?_of_mem hx
    by_cases z : j = i
    · subst z
      rw [List.getElem?_set_self hj] at hi
      exact .inl (Option.some.inj hi).symm
    · rw [List.getElem?_set_ne z] at hi
      exact .inr ⟨List.mem_of_getElem? hi, other i x (Ne.symm z) hi⟩
  refine ⟨c.sat, fun a u q => ?_, fun x hx => ?_, ?_, fun x hx => ?_, ?_, c.pin⟩
  · rw [upd_ne (ne_of_none q hf)]
    exact c.sub a u q
  · rcases look x hx with z | ⟨hx, z⟩
    · subst z
      exact ⟨hf, o, upd_same, hA⟩
    · obtain ⟨h1, o', h2, h3⟩ := c.own x hx
      exact ⟨h1, o', by rw [upd_ne z]; exact h2, h3⟩
  · rw [List.map_set]
    have e : (Ω.map (·.1)).set j p = Ω.map (·.1) := by
      have a2 : (Ω.map (·.1))[j]? = some p := by rw [List.getElem?_map, hm]; rfl
      apply List.ext_getElem?
      intro i
      by_cases z : j = i
      · subst z
        rw [List.getElem?_set_self (by rw [List.length_map]; exact hj), a2]
      · rw [List.getElem?_set_ne z]
    rw [e]
    exact c.nd
  · rcases look x hx with z | ⟨hx, z⟩
    · subst z
      exact (c.loc _ hmem : p ∈ _ ∨ _)
    · exact c.loc x hx
  · have l := c.loc _ hmem
    refine ⟨c.ext.fe, fun a u q na => ?_, fun a q => ?_, c.ext.nw⟩
    · have z : a ≠ p := fun z => by
        subst z
        rcases l with l | l
        · exact na l
        · rw [l] at q; cases q
      rw [upd_ne z]
      exact c.ext.fr a u q na
    · by_cases z : a = p
      · subst z
        rw [upd_same] at q
        cases q
      · rw [upd_ne z] at q
        exact c.ext.dm a q
/-- an owned list that nobody changes any more -/
theorem Ctx.frz {p : Addr} {Rs : List As} {A : OA} {j : Nat} (c : Ctx Z F H σ Γ Ω) (hm : Ω[j]? = some (p, A)) (hA : RdL A Rs) (hz : Z.ft = []) : ∃ F', Same F F' ∧ Ctx Z F' H σ Γ (Ω.eraseIdx j) ∧ (Ls K Rs).p F' (.ref p) := by
  have hmem := List.mem_of_getElem? hm
  have hj : j < Ω.length := (List.getElem?_eq_some_iff.mp hm).1
  obtain ⟨hf, o0, h0, hA0⟩ := c.own _ hmem
  obtain ⟨xs, e, hl⟩ := hA.rd _ _ hA0
  dsimp only at hf h0
  have s : Same F (upd F p (.lst xs)) := fun a u q => by rw [upd_ne (ne_of_none q hf)]; exact q
  have hzp : Z.H p = none := by
    rcases c.loc _ hmem with l | l
    · rw [hz] at l; exact absurd l List.not_mem_nil
    · exact l
  have other : ∀ x ∈ Ω.eraseIdx j, x ∈ Ω ∧ x.1 ≠ p := fun x hx => by
    have hx' := List.mem_of_mem_eraseIdx hx
    refine ⟨hx', fun z => ?_⟩
    have nd2 : ((Ω.eraseIdx j).map (·.1)).Nodup := (List.eraseIdx_sublist Ω j).map _ |>.nodup c.nd
    obtain ⟨i, hi⟩ := List.getElem?_of_mem hx
    rw [List.getElem?_eraseIdx] at hi
    split at hi
    · have a1 : (Ω.map (·.1))[i]? = some p := by rw [List.getElem?_map, hi, ← z]; rfl
      have a2 : (Ω.map (·.1))[j]? = some p := by rw [List.getElem?_map, hm]; rfl
      have := nd_ix c.nd a1 a2
      omega
    · have a1 : (Ω.map (·.1))[i + 1]? = some p := by rw [List.getElem?_map, hi, ← z]; rfl
      have a2 : (Ω.map (·.1))[j]? = some p := by rw [List.getElem?_map, hm]; rfl
      have := nd_ix c.nd a1 a2
      omega
  refine ⟨upd F p (.lst xs), s, ⟨c.sat.mono s, fun a u q => ?_, fun x hx => ?_, ((List.eraseIdx_sublist Ω j).map _).nodup c.nd, fun x hx => c.loc x (other x hx).1, ⟨c.ext.fe.trans s, c.ext.fr, c.ext.dm, fun a h1 h2 => ?_⟩, c.pin.trans s⟩, p, xs, rfl, SqL.of upd_same, hl.mono s⟩
  · by_cases z : a = p
    · subst z
      rw [upd_same] at q
      rw [h0, e]
      exact q
    · rw [upd_ne z] at q
      exact c.sub a u q
  · obtain ⟨hx1, hx2⟩ := other x hx
    obtain ⟨h1, o', h2, h3⟩ := c.own x hx1
    exact ⟨by rw [upd_ne hx2]; exact h1, o', h2, x.2.mono s h3⟩
  · have z : a ≠ p := fun z => h1 (by rw [z]; exact hzp)
    rw [upd_ne z]
    exact c.ext.nw a h1 h2
theorem st_asgX {β : Type} {P : β → Prop} {Rb : β → As} {g : TG} {G' : β → Gm} {ws : List Nat} (c : Ctx Z F H σ Γ Ω) (e : Ev Γ Ω te (Xs P Rb)) (hg : ∀ b, Gt Γ (Rb b) g (G' b) ws) (k : ∀ b F' H' σ', P b → Ctx Z F' H' σ' (G' b) Ω → Same F F' → n σ' H') : tAsg te g ⟨n, r, bk, ct⟩ σ H :=
  e Z F H σ c _ fun v F1 H1 c1 s1 rv => by
    obtain ⟨b, hb, rv⟩ := rv
    exact hg b Z F1 H1 σ v Ω c1 rv _ fun σ' c2 _ => k b F1 H1 σ' hb c2 s1.fe
theorem ev_eqB {a b : Bool} (ha : Ev Γ Ω ta (B a)) (hb : Ev Γ Ω tb (B b)) : Ev Γ Ω (tOp rEq ta tb) (B (decide (a = b))) := ev_op ha hb fun F H x y s e e' Q q => by
  cases e; cases e'
  refine ⟨rfl, ?_⟩
  have z : decide (V.bl a = V.bl b) = decide (a = b) := by simp
  rw [z]
  exact q _ F H (Ext.refl _ _ _) s rfl
theorem ev_eqS {a b : Str} (ha : Ev Γ Ω ta (S a)) (hb : Ev Γ Ω tb (S b)) : Ev Γ Ω (tOp rEq ta tb) (B (decide (a = b))) := ev_op ha hb fun F H x y s e e' Q q => by
  cases e; cases e'
  refine ⟨rfl, ?_⟩
  have z : decide (V.str a = V.str b) = decide (a = b) := by simp
  rw [z]
  exact q _ F H (Ext.refl _ _ _) s rfl
theorem ev_neS {a b : Str} (ha : Ev Γ Ω ta (S a)) (hb : Ev Γ Ω tb (S b)) : Ev Γ Ω (tOp rNe ta tb) (B (!decide (a = b))) := ev_op ha hb fun F H x y s e e' Q q => by
  cases e; cases e'
  refine ⟨rfl, ?_⟩
  have z : decide (V.str a = V.str b) = decide (a = b) := by simp
  rw [z]
  exact q _ F H (Ext.refl _ _ _) s rfl
theorem st_forT {ι α : Type} {tl : TE} {g : TG} {tb : TS} {xs : List α} {f : α → As} (G : ι → Gm) (G' : α → ι → Gm) (O : ι → Om) (P : Nat → ι → Prop) {ws : List Nat} (i0 : ι) (c : Ctx Z F H σ (G i0) (O i0)) (e : Ev (G i0) (O i0) tl (Tp K (xs.map f))) (p0 : P 0 i0)
    (hg : ∀ x i, Gt (G i) (f x) g (G' x i) ws)
    (body : ∀ k x i G1 F H σ (N : St → Hp → Prop), xs[k]? = some x → P k i → Ctx (Z.pin G1) F H σ (G' x i) (O i) → (∀ j F' H' σ', P (k + 1) j → Ctx (Z.pin G1) F' H' σ' (G j) (O j) → N σ' H') → tb ⟨N, r, n, N⟩ σ H)
    (hd : ∀ i F H σ, P xs.length i → Ctx Z F H σ (G i) (O i) → n σ H) : tFor (iTup K tl) g tb ⟨n, r, bk, ct⟩ σ H := by
  refine e Z F H σ c _ fun v F1 H1 c1 s1 rv => ?_
  obtain ⟨a, ys, ea, hs, hl⟩ := rv
  have hlen : ys.length = xs.length := by rw [hl.length, List.length_map]
  refine ⟨a, ea, ⟨ys, same_seqT c1.sub hs⟩, for_tup (K := K) (a := a) (xs := ys) (fun k σ H => ∃ i F, P k i ∧ Ctx (Z.pin F1) F H σ (G i) (O i)) ⟨i0, F1, p0, c1.topin (Same.refl _)⟩ (fun k σ H _ ⟨i, F, _, cc⟩ => same_seqT cc.sub (same_seqT cc.pin hs)) ?_ ?_⟩
  · rintro k y σ H hy ⟨i, F, p, cc⟩
    have hk : k < xs.length := by rw [← hlen]; exact (List.getElem?_eq_some_iff.mp hy).1
    have hx : xs[k]? = some xs[k] := List.getElem?_eq_getElem hk
    have hz : (xs.map f)[k]? = some (f xs[k]) := by rw [List.getElem?_map, hx]; rfl
    obtain ⟨y', ey, ry⟩ := hl.get hz
    rw [hy] at ey
    cases ey
    refine hg xs[k] i (Z.pin F1) F H σ y (O i) cc ((f xs[k]).mono cc.pin ry) _ fun σ' c' _ => ?_
    exact body k xs[k] i F1 F H σ' _ hx p c' fun j F' H' σ'' pj cj => ⟨j, F', pj, cj⟩
  · rintro σ H ⟨i, F, p, cc⟩
    rw [hlen] at p
    exact hd i F H σ p (cc.unpin c1.pin)
theorem ev_ls2 {Rs' : List As} (h : Ev Γ Ω te (Ls K Rs)) (e : Rs = Rs') : Ev Γ Ω te (Ls K Rs') := e ▸ h
/-- x = [] of a list that will grow -/
theorem st_nil {i : Nat} (c : Ctx Z F H σ Γ Ω) (k : ∀ p F' H' σ', Ctx Z F' H' σ' (Γ.set i (some (Rf p))) ((p, oL []) :: Ω) → Same F F' → n σ' H') : tAsg (tLst tNil) (gName i) ⟨n, r, bk, ct⟩ σ H :=
  ⟨Nat.zero_le _, fun p hp => k p F _ _ ((c.grow (A := oL []) hp ⟨[], rfl, trivial⟩).set i rfl) (Same.refl _)⟩
/-- x.append(e), x owned -/
theorem st_app {p : Addr} {j : Nat} (c : Ctx Z F H σ Γ Ω) (h : Ev Γ Ω ta (Rf p)) (hm : Ω[j]? = some (p, oL Rs)) (e : Ev Γ Ω te R) (hl : Rs.length ≤ 100000) (k : ∀ F' H', Ctx Z F' H' σ Γ (Ω.set j (p, oL (Rs ++ [R]))) → Same F F' → n σ H') :
    tDrop (tBM K "list" rAppend ta (tCons te tNil)) ⟨n, r, bk, ct⟩ σ H :=
  h Z F H σ c _ fun v F1 H1 c1 s1 rv => by
    cases rv
    obtain ⟨_, o, h2, xs, eo, hx⟩ := c1.own _ (List.mem_of_getElem? hm)
    refine ⟨.inl ⟨rfl, _, SqL.of (by rw [h2, eo])⟩, ?_⟩
    refine e Z F1 H1 σ c1 _ fun y F2 H2 c2 s2 ry => ?_
    obtain ⟨_, o, h2, xs, eo, hx⟩ := c2.own _ (List.mem_of_getElem? hm)
    refine ⟨p, xs, y, rfl, rfl, by rw [h2, eo], ?_, ?_⟩
    · rw [hx.length]
      exact Nat.lt_of_le_of_lt hl (by decide)
    · exact k F2 _ (c2.chg hm ⟨_, rfl, hx.app ⟨ry, trivial⟩⟩) (s1.trans s2).fe
theorem st_appX {β : Type} {P : β → Prop} {Rb : β → As} {p : Addr} {j : Nat} (c : Ctx Z F H σ Γ Ω) (h : Ev Γ Ω ta (Rf p)) (hm : Ω[j]? = some (p, oL Rs)) (e : Ev Γ Ω te (Xs P Rb)) (hl : Rs.length ≤ 100000) (k : ∀ b F' H', P b → Ctx Z F' H' σ Γ (Ω.set j (p, oL (Rs ++ [Rb b]))) → Same F F' → n σ H') :
    tDrop (tBM K "list" rAppend ta (tCons te tNil)) ⟨n, r, bk, ct⟩ σ H :=
  h Z F H σ c _ fun v F1 H1 c1 s1 rv => by
    cases rv
    obtain ⟨_, o, h2, xs, eo, hx⟩ := c1.own _ (List.mem_of_getElem? hm)
    refine ⟨.inl ⟨rfl, _, SqL.of (by rw [h2, eo])⟩, ?_⟩
    refine e Z F1 H1 σ c1 _ fun y F2 H2 c2 s2 ry => ?_
    obtain ⟨b, hb, ry⟩ := ry
    obtain ⟨_, o, h2, xs, eo, hx⟩ := c2.own _ (List.mem_of_getElem? hm)
    refine ⟨p, xs, y, rfl, rfl, by rw [h2, eo], ?_, ?_⟩
    · rw [hx.length]
      exact Nat.lt_of_le_of_lt hl (by decide)
    · exact k b F2 _ hb (c2.chg hm ⟨_, rfl, hx.app ⟨ry, trivial⟩⟩) (s1.trans s2).fe
/-- return x, x owned -/
theorem st_retL {p : Addr} {A : OA} {j : Nat} (c : Ctx Z F H σ Γ Ω) (h : Ev Γ Ω te (Rf p)) (hm : Ω[j]? = some (p, A)) (hA : RdL A Rs) (hz : Z.ft = []) (k : ∀ v F' H', Ctx Z F' H' σ Γ (Ω.eraseIdx j) → Same F F' → (Ls K Rs).p F' v → r v H') : tRet te ⟨n, r, bk, ct⟩ σ H :=
  h Z F H σ c _ fun v F1 H1 c1 s1 rv => by
    cases rv
    obtain ⟨F2, s2, c2, q⟩ := c1.frz (K := K) hm hA hz
    exact k _ F2 H1 c2 (s1.fe.trans s2) q
end
/-! ## == of data -/
structure IsD (K : PySem.W.Frag) (R : As) (d : PyData) : Prop where
  dp : ∀ F H v, Same F H → R.p F v → Dp K H v d
def AllD (K : PySem.W.Frag) : List As → List PyData → Prop
  | [], [] => True
  | R :: Rs, d :: ds => IsD K R d ∧ AllD K Rs ds
  | _, _ => False
/-- it can be compared: its depth is at most k -/
def Gd (k : Nat) (d : PyData) : Prop := d.canLay0 = true ∧ d.depth ≤ k
theorem gd_all : ∀ {ds : List PyData} {k : Nat}, (∀ d ∈ ds, Gd k d) → PyData.canLayAll0 ds = true ∧ PyData.depthAll ds ≤ k
  | [], k, _ => ⟨rfl, Nat.zero_le _⟩
  | d :: ds, k, h => by
    obtain ⟨h1, h2⟩ := h d List.mem_cons_self
    obtain ⟨h3, h4⟩ := gd_all (k := k) fun d' hd => h d' (List.mem_cons_of_mem _ hd)
    refine ⟨?_, ?_⟩
    · show (d.canLay0 && PyData.canLayAll0 ds) = true
      rw [h1, h3]; rfl
    · show max d.depth (PyData.depthAll ds) ≤ k
      omega
theorem gd_list {ds : List PyData} {k : Nat} (h : ∀ d ∈ ds, Gd k d) : Gd (k + 1) (.list ds) := ⟨(gd_all h).1, Nat.succ_le_succ (gd_all h).2⟩
theorem gd_tup {ds : List PyData} {k : Nat} (h : ∀ d ∈ ds, Gd k d) : Gd (k + 1) (.tuple ds) := ⟨(gd_all h).1, Nat.succ_le_succ (gd_all h).2⟩
theorem gd_int {n : Int} : Gd 0 (.int n) := ⟨rfl, Nat.le_refl _⟩
theorem Gd.shaped {d : PyData} {k : Nat} (h : Gd k d) (l : k ≤ 64 := by decide) : SeqAt.shaped d = true := by
  unfold SeqAt.shaped
  rw [h.1, Bool.true_and]
  exact decide_eq_true (Nat.le_trans h.2 l)
section
variable {K : PySem.W.Frag} {F H : Hp}
theorem isd_int {n : Int} : IsD K (I n) (.int n) := ⟨fun F H v s e => by cases e; exact .int n⟩
theorem isd_bool {b : Bool} : IsD K (B b) (.bool b) := ⟨fun F H v s e => by cases e; exact .bl b⟩
theorem isd_str {x : Str} : IsD K (S x) (.str x) := ⟨fun F H v s e => by cases e; exact .str x⟩
theorem isd_non : IsD K Nn .none := ⟨fun F H v s e => by cases e; exact .non⟩
theorem dpall : ∀ {Rs : List As} {ds : List PyData} {xs : List V}, AllD K Rs ds → Same F H → All F Rs xs → DpAll K H xs ds
  | [], [], [], _, _, _ => .nil
  | R :: Rs, d :: ds, x :: xs, h, s, a => .cons (h.1.dp F H x s a.1) (dpall h.2 s a.2)
  | [], _ :: _, _, h, _, _ => h.elim
  | _ :: _, [], _, h, _, _ => h.elim
  | [], [], _ :: _, _, _, a => a.elim
  | _ :: _, _ :: _, [], _, _, a => a.elim
theorem isd_tup {Rs : List As} {ds : List PyData} (h : AllD K Rs ds) : IsD K (Tp K Rs) (.tuple ds) := ⟨fun F H v s e => by
  obtain ⟨a, xs, e, hs, hl⟩ := e
  subst e
  exact .tup (same_seqT s hs) (dpall h s hl)⟩
theorem isd_lst {Rs : List As} {ds : List PyData} (h : AllD K Rs ds) : IsD K (Ls K Rs) (.list ds) := ⟨fun F H v s e => by
  obtain ⟨a, xs, e, hs, hl⟩ := e
  subst e
  exact .lst (s.seq hs) (dpall h s hl)⟩
theorem alld_map {α : Type} {f : α → As} {d : α → PyData} (h : ∀ x, IsD K (f x) (d x)) : ∀ xs : List α, AllD K (xs.map f) (xs.map d)
  | [] => trivial
  | x :: xs => ⟨h x, alld_map h xs⟩
/-- how data of a kind are told, and that == tells them apart -/
structure Kd (K : PySem.W.Frag) {α : Type} (f : α → As) (d : α → PyData) (k : Nat) : Prop where
  is : ∀ x, IsD K (f x) (d x)
  gd : ∀ x, Gd k (d x)
  eq : ∀ x y, PyData.eqv (d x) (d y) = true ↔ x = y
theorem kd_int : Kd K (fun n => I n) PyData.int 0 := ⟨fun _ => isd_int, fun _ => gd_int, fun x y => by simp [PyData.eqv]⟩
theorem kd_pair : Kd K (Fr K) (fun q => .tuple [.int q.1, .int q.2]) 1 := ⟨fun q => isd_tup ⟨isd_int, isd_int, trivial⟩, fun q => gd_tup fun d hd => by
    rcases List.mem_cons.mp hd with z | hd
    · subst z; exact gd_int
    · rcases List.mem_cons.mp hd with z | hd
      · subst z; exact gd_int
      · exact absurd hd List.not_mem_nil, fun x y => by
    obtain ⟨a, b⟩ := x
    obtain ⟨c, d⟩ := y
    simp [PyData.eqv, PyData.eqvAll]⟩
theorem fq_inj {x y : Rat} (h1 : x.num = y.num) (h2 : (x.den : Int) = y.den) : x = y := by
  rw [← Rat.num_divInt_den x, ← Rat.num_divInt_den y, h1, h2]
theorem kd_fq : Kd K (Fq K) (fun q => .tuple [.int q.num, .int q.den]) 1 := ⟨fun q => kd_pair.is _, fun q => (kd_pair (K := K)).gd (q.num, (q.den : Int)), fun x y => by
    have e := kd_pair (K := K) |>.eq (x.num, (x.den : Int)) (y.num, (y.den : Int))
    refine e.trans ⟨fun h => ?_, fun h => by rw [h]⟩
    exact fq_inj (congrArg Prod.fst h) (congrArg Prod.snd h)⟩
theorem eqv_map {α : Type} {d : α → PyData} (h : ∀ x y, PyData.eqv (d x) (d y) = true ↔ x = y) : ∀ xs ys : List α, PyData.eqvAll (xs.map d) (ys.map d) = true ↔ xs = ys
  | [], [] => ⟨fun _ => rfl, fun _ => rfl⟩
  | [], _ :: _ => ⟨(fun h => by cases h), (fun h => by cases h)⟩
  | _ :: _, [] => ⟨(fun h => by cases h), (fun h => by cases h)⟩
  | x :: xs, y :: ys => by
    show (PyData.eqv (d x) (d y) && PyData.eqvAll (xs.map d) (ys.map d)) = true ↔ _
    rw [Bool.and_eq_true, h, eqv_map h xs ys, List.cons.injEq]
theorem kd_list {α : Type} {f : α → As} {d : α → PyData} {k : Nat} (h : Kd K f d k) : Kd K (fun xs : List α => Ls K (xs.map f)) (fun xs => .list (xs.map d)) (k + 1) :=
  ⟨fun xs => isd_lst (alld_map h.is xs), fun xs => gd_list fun d' hd => by
    obtain ⟨x, _, e⟩ := List.mem_map.mp hd
    subst e; exact h.gd x, fun xs ys => eqv_map h.eq xs ys⟩
variable {Γ : Gm} {Ω : Om} {ta tb : TE} {R Rx Ry : As}
theorem ev_eqD {d e : PyData} {k m : Nat} (ha : Ev Γ Ω ta Rx) (hb : Ev Γ Ω tb Ry) (h1 : IsD K Rx d) (h2 : IsD K Ry e) (g1 : Gd k d) (g2 : Gd m e) (l1 : k ≤ 64 := by decide) (l2 : m ≤ 64 := by decide) : Ev Γ Ω (tOp (rEqD K) ta tb) (B (PyData.eqv d e)) :=
  ev_op ha hb fun F H x y s rx ry Q q => ⟨d, e, h1.dp F H x s rx, h2.dp F H y s ry, g1.shaped l1, g2.shaped l2, q _ F H (Ext.refl _ _ _) s rfl⟩
theorem ev_neD {d e : PyData} {k m : Nat} (ha : Ev Γ Ω ta Rx) (hb : Ev Γ Ω tb Ry) (h1 : IsD K Rx d) (h2 : IsD K Ry e) (g1 : Gd k d) (g2 : Gd m e) (l1 : k ≤ 64 := by decide) (l2 : m ≤ 64 := by decide) : Ev Γ Ω (tOp (rNeD K) ta tb) (B (!PyData.eqv d e)) :=
  ev_op ha hb fun F H x y s rx ry Q q => ⟨d, e, h1.dp F H x s rx, h2.dp F H y s ry, g1.shaped l1, g2.shaped l2, q _ F H (Ext.refl _ _ _) s rfl⟩
theorem ev_eqK {α : Type} [DecidableEq α] {f : α → As} {d : α → PyData} {k : Nat} {x y : α} (h : Kd K f d k) (ha : Ev Γ Ω ta (f x)) (hb : Ev Γ Ω tb (f y)) (l : k ≤ 64 := by decide) : Ev Γ Ω (tOp (rEqD K) ta tb) (B (decide (x = y))) :=
  ev_is (ev_eqD ha hb (h.is x) (h.is y) (h.gd x) (h.gd y) l l) (congrArg (fun b => B b) (by rw [Bool.eq_iff_iff, h.eq, decide_eq_true_iff]))
theorem ev_neK {α : Type} [DecidableEq α] {f : α → As} {d : α → PyData} {k : Nat} {x y : α} (h : Kd K f d k) (ha : Ev Γ Ω ta (f x)) (hb : Ev Γ Ω tb (f y)) (l : k ≤ 64 := by decide) : Ev Γ Ω (tOp (rNeD K) ta tb) (B (!decide (x = y))) :=
  ev_is (ev_neD ha hb (h.is x) (h.is y) (h.gd x) (h.gd y) l l) (congrArg (fun b => B (!b)) (by rw [Bool.eq_iff_iff, h.eq, decide_eq_true_iff]))
end
/-- a list, owned or not, against the list without items -/
theorem eqv_nil {ds : List PyData} : PyData.eqv (.list ds) (.list []) = decide (ds = []) := by
  cases ds with
  | nil => rfl
  | cons => rfl
section
variable {K : PySem.W.Frag} {Γ : Gm} {Ω : Om} {ta tb : TE} {α : Type} {f : α → As} {d : α → PyData} {k : Nat} {xs : List α}
theorem ev_cmpNil (neg : Bool) (h : Kd K f d k) (ha : Lk K Γ Ω ta (xs.map f)) (l : k ≤ 63 := by decide) : Ev Γ Ω (tOp (if neg then rNeD K else rEqD K) ta (tLst tNil)) (B (if neg then !xs.isEmpty else xs.isEmpty)) := fun Z F H σ c Q q =>
  ha Z F H σ c _ fun a F1 H1 c1 s1 hs => ⟨Nat.zero_le _, fun p hp => by
    obtain ⟨F2, H2, e, c2, s2, r⟩ := new_ls (K := K) (Rs := []) (xs := []) c1 trivial hp
    rw [← e]
    obtain ⟨ys, hs2, hl⟩ := hs F2 H2 c2 s2.fe
    have d1 : Dp K H2 (.ref a) (.list (xs.map d)) := .lst hs2 (dpall (alld_map h.is xs) c2.sub hl)
    have d2 : Dp K H2 (.ref p) (.list []) := by
      obtain ⟨p', zs, ep, hz, hzl⟩ := r
      cases ep
      exact .lst (c2.sub.seq hz) (dpall (Rs := []) (ds := []) trivial c2.sub hzl)
    have g1 : Gd (k + 1) (.list (xs.map d)) := (kd_list h).gd xs
    have sh1 := g1.shaped (Nat.succ_le_succ l)
    have sh2 : SeqAt.shaped (.list []) = true := by decide
    have ee : PyData.eqv (.list (xs.map d)) (.list []) = xs.isEmpty := by
      cases xs <;> rfl
    cases neg with
    | true => exact ⟨_, _, d1, d2, sh1, sh2, by rw [ee]; exact q _ F2 H2 c2 (s1.trans s2) rfl⟩
    | false => exact ⟨_, _, d1, d2, sh1, sh2, by rw [ee]; exact q _ F2 H2 c2 (s1.trans s2) rfl⟩⟩
end
end Y

namespace Y
open PySem L2
/-! ## comprehensions -/
def wipeG (Γ : Gm) : List Nat → Gm
  | [] => Γ
  | v :: vs => (wipeG Γ vs).set v none
theorem wipe_sub {σ : L2.St} {vs : List Nat} : ∀ us : List Nat, (∀ i, i ∈ us → i ∈ vs) → L2.wipe (L2.wipe σ us) vs = L2.wipe σ vs
  | [], _ => rfl
  | u :: us, h => (wipe_set (σ := L2.wipe σ us) (h u List.mem_cons_self)).trans (wipe_sub us fun i hi => h i (List.mem_cons_of_mem _ hi))
theorem wipe_wipe (σ : L2.St) (vs : List Nat) : L2.wipe (L2.wipe σ vs) vs = L2.wipe σ vs := wipe_sub vs fun _ h => h
theorem Sat.wipe {F : Hp} {Γ : Gm} {σ : L2.St} (h : Sat F Γ σ) : ∀ vs : List Nat, Sat F (wipeG Γ vs) (L2.wipe σ vs)
  | [] => h
  | v :: vs => Sat.unset v (Sat.wipe h vs)
section
variable {Z : Bs} {F H F' H' : Hp} {σ σ' : L2.St} {Γ Γ' : Gm} {Ω Ω' : Om} {K : PySem.W.Frag} {te ta tb tl : TE} {tt : TT} {R Rx Ry : As} {Rs Ss : List As} {n : L2.St → Hp → Prop} {r : VK} {bk ct : L2.St → Hp → Prop}
theorem Ctx.slots {Γ' : Gm} {σ' : L2.St} (c : Ctx Z F H σ Γ Ω) (h : Sat F Γ' σ') : Ctx Z F H σ' Γ' Ω := ⟨h, c.sub, c.own, c.nd, c.loc, c.ext, c.pin⟩
/-- what is owned is, for a while, what it is just now -/
theorem Ctx.tail {x : Addr × OA} (c : Ctx Z F H σ Γ (x :: Ω)) : Ctx Z F H σ Γ Ω :=
  ⟨c.sat, c.sub, fun y hy => c.own y (List.mem_cons_of_mem _ hy), (List.nodup_cons.mp c.nd).2, fun y hy => c.loc y (List.mem_cons_of_mem _ hy), c.ext, c.pin⟩
theorem filter_take {α : Type} {xs : List α} {c : α → Bool} {k : Nat} {x : α} (h : xs[k]? = some x) : (xs.take (k + 1)).filter c = (xs.take k).filter c ++ (if c x = true then [x] else []) := by
  rw [List.take_succ, h, Option.toList_some, List.filter_append]
  congr 1
  rw [List.filter_cons, List.filter_nil]
theorem ev_lc {α : Type} {xs : List α} {f : α → As} {g : TG} {vs : List Nat} (G' : α → Gm) (cd : α → Bool) (res : α → As) {ws : List Nat} (e : Ev Γ Ω tl (Ls K (xs.map f))) (hg : ∀ x, Gt (wipeG Γ vs) (f x) g (G' x) ws) (hw : ∀ i ∈ ws, i ∈ vs)
    (ht : ∀ x ∈ xs, EvT (G' x) Ω tt (cd x)) (he : ∀ x ∈ xs, cd x = true → Ev (G' x) Ω te (res x)) (hlen : xs.length ≤ 100000) : Ev Γ Ω (tLc (iList K tl) g tt te vs) (Ls K ((xs.filter cd).map res)) := fun Z F H σ c Q q =>
  e Z F H σ c _ fun v F1 H1 c1 s1 rv => by
    obtain ⟨a, ys, ea, hs, hl⟩ := rv
    have hly : ys.length = xs.length := by rw [hl.length, List.length_map]
    refine ⟨a, ea, ⟨ys, c1.sub.seq hs⟩, fun D hD => ?_⟩
    have cw : Ctx Z F1 H1 (L2.wipe σ vs) (wipeG Γ vs) Ω := c1.slots (c1.sat.wipe vs)
    refine lc_list (K := K) (a := a) (xs := ys) (fun k H' => ∃ F' acc, H' D = some (.lst acc) ∧ acc.length ≤ k ∧ All F' (((xs.take k).filter cd).map res) acc ∧ F' D = none ∧ ∃ G, Ctx Z F' G (L2.wipe σ vs) (wipeG Γ vs) Ω ∧ Ext [] F1 H1 F' G ∧ G D = none ∧ H' = upd G D (.lst acc))
      ⟨F1, [], upd_same, Nat.zero_le _, trivial, c1.sub.free hD, H1, cw, Ext.refl _ _ _, hD, rfl⟩ ?_ ?_ ?_
    · rintro k H' _ ⟨F', acc, _, _, _, _, G, cG, eG, hGD, rfl⟩
      have z := cG.sub.seq (eG.fe.seq hs)
      exact Same.seq (fun b o h => by rw [upd_ne (ne_of_none h hGD)]; exact h) z
    · rintro k y H' hy ⟨F', acc, hA, hlA, hall, hFD, G, cG, eG, hGD, rfl⟩
      have hk : k < xs.length := by rw [← hly]; exact (List.getElem?_eq_some_iff.mp hy).1
      have hx : xs[k]? = some xs[k] := List.getElem?_eq_getElem hk
      have hmem : xs[k] ∈ xs := List.getElem_mem hk
      have hz : (xs.map f)[k]? = some (f xs[k]) := by rw [List.getElem?_map, hx]; rfl
      obtain ⟨y', ey, ry⟩ := hl.get hz
      rw [hy] at ey
      cases ey
      -- the list that is being made, as something owned
      have cD : Ctx Z F' (upd G D (.lst acc)) (L2.wipe σ vs) (wipeG Γ vs) ((D, oX acc []) :: Ω) ∨ True := .inr trivial
      have cA : Ctx Z F' (upd G D (.lst acc)) (L2.wipe σ vs) (wipeG Γ vs) Ω := (cG.grow (A := ⟨fun _ _ => True, fun _ h => h⟩) (p := D) (o := .lst acc) hGD trivial).tail
      have pres : ∀ {F2 H2 : Hp}, Ext [] F' (upd G D (.lst acc)) F2 H2 → H2 D = some (.lst acc) := fun e2 => e2.fr D _ upd_same List.not_mem_nil
      have back : ∀ {F2 H2 : Hp} {σ2 : L2.St} {Γ2 : Gm}, Ctx Z F2 H2 σ2 Γ2 Ω → Ext [] F' (upd G D (.lst acc)) F2 H2 → F2 D = none ∧ ∃ G2, Ctx Z F2 G2 (L2.wipe σ vs) (wipeG Γ vs) Ω ∧ Ext [] F1 H1 F2 G2 ∧ G2 D = none ∧ ∀ o, upd H2 D o = upd G2 D o := fun {F2 H2 σ2 Γ2} c2 e2 => by
        have f2 : F2 D = none := e2.nw D (by rw [upd_same]; exact fun z => by cases z) hFD
        let G2 : Hp := fun b => if b = D then none else H2 b
        have g2 : ∀ b, b ≠ D → G2 b = H2 b := fun b hb => if_neg hb
        have gD : G2 D = none := if_pos rfl
        have hext : Ext [] F' G F2 G2 := by
          refine ⟨e2.fe, fun b o h hn => ?_, fun b h => ?_, fun b h1 h2 => ?_⟩
          · have hb : b ≠ D := ne_of_none h hGD
            rw [g2 b hb]
            exact e2.fr b o (by rw [upd_ne hb]; exact h) hn
          · by_cases hb : b = D
            · rw [hb]; exact hGD
            · rw [g2 b hb] at h
              have := e2.dm b h
              rw [upd_ne hb] at this
              exact this
          · have hb : b ≠ D := fun z => h1 (by rw [z]; exact hGD)
            exact e2.nw b (by rw [upd_ne hb]; exact h1) h2
        have hsub : Same F2 G2 := fun b o h => by
          have hb : b ≠ D := ne_of_none h f2
          rw [g2 b hb]
          exact c2.sub b o h
        refine ⟨f2, G2, cG.step hext hsub, eG.trans hext, gD, fun o => ?_⟩
        funext b
        unfold upd
        by_cases hb : b = D
        · rw [if_pos hb, if_pos hb]
        · rw [if_neg hb, if_neg hb, g2 b hb]
      refine hg xs[k] Z F' _ (L2.wipe σ vs) y Ω cA ((f xs[k]).mono eG.fe ry) _ fun σ2 c2 hσ => ⟨(hσ vs hw).trans ?_, ?_⟩
      · exact wipe_wipe σ vs
      refine ht xs[k] hmem Z F' _ σ2 c2 _ fun F3 H3 c3 e3 => ?_
      cases hc : cd xs[k] with
      | false =>
        refine iteF ?_
        obtain ⟨f3, G3, cG3, eG3, gD3, up3⟩ := back c3 e3
        refine ⟨F3, acc, pres e3, by omega, ?_, f3, G3, cG3, eG3, gD3, ?_⟩
        · rw [filter_take hx, hc, if_neg Bool.false_ne_true, List.append_nil]
          exact hall.mono e3.fe
        · have := up3 (.lst acc)
          rw [← this]
          funext b
          unfold upd
          by_cases hb : b = D
          · rw [if_pos hb, hb]; exact pres e3
          · rw [if_neg hb]
      | true =>
        refine iteT ?_
        refine he xs[k] hmem hc Z F3 H3 σ2 c3 _ fun w F4 H4 c4 e4 rw' => ?_
        have e34 := e3.trans e4
        obtain ⟨f4, G4, cG4, eG4, gD4, up4⟩ := back c4 e34
        refine ⟨acc, pres e34, Nat.lt_of_le_of_lt (Nat.le_trans hlA (Nat.le_of_lt (Nat.lt_of_lt_of_le hk hlen))) (by decide), F4, acc ++ [w], upd_same, by rw [List.length_append]; exact Nat.succ_le_succ hlA, ?_, f4, G4, cG4, eG4, gD4, up4 _⟩
        rw [filter_take hx, hc, if_pos rfl, List.map_append]
        exact (hall.mono e34.fe).app ⟨rw', trivial⟩
    · rintro H' ⟨F', acc, hA, _, hall, hFD, G, cG, eG, hGD, rfl⟩
      rw [hly, List.take_length] at hall
      obtain ⟨e', s'⟩ := Ext.new (o := .lst acc) cG.sub hGD
      exact q _ _ _ (c1.step (eG.trans e') s') (s1.trans (eG.trans e')) ⟨D, acc, rfl, SqL.of upd_same, hall.mono e'.fe⟩
end
section
variable {Γ : Gm} {Ω : Om} {K : PySem.W.Frag} {te tl : TE}
theorem et_yes : EvT Γ Ω tYes true := fun Z F H σ c Q q => q F H c (Ext.refl _ _ _)
theorem ev_lcA {α : Type} {xs : List α} {f : α → As} {g : TG} {vs : List Nat} (G' : α → Gm) (res : α → As) {ws : List Nat} (e : Ev Γ Ω tl (Ls K (xs.map f))) (hg : ∀ x, Gt (wipeG Γ vs) (f x) g (G' x) ws) (hw : ∀ i ∈ ws, i ∈ vs)
    (he : ∀ x ∈ xs, Ev (G' x) Ω te (res x)) (hlen : xs.length ≤ 100000) : Ev Γ Ω (tLc (iList K tl) g tYes te vs) (Ls K (xs.map res)) := by
  have z := ev_lc (K := K) (te := te) (tt := tYes) G' (fun _ => true) res e hg hw (fun _ _ => et_yes) (fun x hx _ => he x hx) hlen
  rw [List.filter_eq_self.mpr (fun _ _ => rfl)] at z
  exact z
end
/-! ## built-ins over lists of ints -/
section
variable {K : PySem.W.Frag} {Γ : Gm} {Ω : Om} {ta tb te : TE}
theorem all_map {F : Hp} {α : Type} {g : α → Int} : ∀ {xs : List α} {ys : List V}, All F (xs.map fun x => I (g x)) ys → ys = (xs.map g).map V.int
  | [], [], _ => rfl
  | x :: xs, y :: ys, h => by
    have e : y = V.int (g x) := h.1
    rw [e, all_map h.2]
    rfl
  | [], _ :: _, h => h.elim
  | _ :: _, [], h => h.elim
theorem rc_sum {α : Type} {xs : List α} {g : α → Int} : RC (rSum K) [Ls K (xs.map fun x => I (g x))] (I (xs.map g).sum) := fun F H vs s h Q q => by
  obtain ⟨v, rfl, a, ys, e, hs, hl⟩ := h.one
  cases e
  have z := all_map hl
  subst z
  exact ⟨a, xs.map g, rfl, s.seq hs, q _ F H (Ext.refl _ _ _) s rfl⟩
theorem rc_max2 {m n : Int} : RC (fun xs H Q => ∃ m n, xs = [.int m, .int n] ∧ Q (.int (if n > m then n else m)) H) [I m, I n] (I (max m n)) := fun F H vs s h Q q => by
  obtain ⟨v, w, rfl, e, e'⟩ := h.two
  cases e; cases e'
  refine ⟨m, n, rfl, ?_⟩
  have z : (if n > m then n else m) = max m n := by split <;> omega
  rw [z]
  exact q _ F H (Ext.refl _ _ _) s rfl
theorem rc_min2 {m n : Int} : RC (fun xs H Q => ∃ m n, xs = [.int m, .int n] ∧ Q (.int (if n < m then n else m)) H) [I m, I n] (I (min m n)) := fun F H vs s h Q q => by
  obtain ⟨v, w, rfl, e, e'⟩ := h.two
  cases e; cases e'
  refine ⟨m, n, rfl, ?_⟩
  have z : (if n < m then n else m) = min m n := by split <;> omega
  rw [z]
  exact q _ F H (Ext.refl _ _ _) s rfl
/-! pieces -/
abbrev Pie := Int × Int × Int × Int
def Pc (K : PySem.W.Frag) (p : Pie) : As := Tp K [I p.1, I p.2.1, I p.2.2.1, I p.2.2.2]
theorem ev_pc {ta : TA} {a b c d : Int} (h : EvA Γ Ω ta [I a, I b, I c, I d]) : Ev Γ Ω (tTup ta) (Pc K (a, b, c, d)) := ev_tup h (show 4 ≤ 1000 by decide)
theorem kd_pc : Kd K (Pc K) (fun p => .tuple [.int p.1, .int p.2.1, .int p.2.2.1, .int p.2.2.2]) 1 := ⟨fun q => isd_tup ⟨isd_int, isd_int, isd_int, isd_int, trivial⟩, fun q => gd_tup fun d hd => by
    simp only [List.mem_cons, List.not_mem_nil, or_false] at hd
    rcases hd with z | z | z | z <;> (subst z; exact gd_int), fun x y => by
    obtain ⟨a, b, c, d⟩ := x
    obtain ⟨a', b', c', d'⟩ := y
    simp [PyData.eqv, PyData.eqvAll]⟩
theorem atI_two (a b z : Int) : atI [I a, I b] (z % 2) = some (I (if z % 2 = 0 then a else b)) := by
  rcases Int.emod_two_eq z with h | h
  · rw [h]; rfl
  · rw [h]; rfl
theorem atI_map {α : Type} {f : α → As} {xs : List α} {i : Int} (h0 : 0 ≤ i) (h : i < (xs.length : Int)) : ∃ x, xs[i.toNat]? = some x ∧ atI (xs.map f) i = some (f x) := by
  have hk : i.toNat < xs.length := by omega
  have ek : i = ((i.toNat : Nat) : Int) := by omega
  refine ⟨xs[i.toNat], List.getElem?_eq_getElem hk, ?_⟩
  have z := atI_nat (xs := xs.map f) (j := i.toNat) (v := f xs[i.toNat]) (by rw [List.getElem?_map, List.getElem?_eq_getElem hk]; rfl)
  rw [← ek] at z
  exact z
theorem cutA_from {α : Type} {f : α → As} {xs : List α} {j k : Nat} : cutA (xs.map f) (some (j : Int)) (some (k : Int)) = ((xs.drop j).take (k - j)).map f := by
  unfold cutA
  rw [HT.sIx_nat, HT.sIx_nat, List.length_map, ← List.map_drop, ← List.map_take]
  congr 1
  by_cases hj : j ≤ xs.length
  · by_cases hk : k ≤ xs.length
    · rw [Nat.min_eq_left hj, Nat.min_eq_left hk]
    · rw [Nat.min_eq_left hj, Nat.min_eq_right (by omega), List.take_of_length_le (by rw [List.length_drop]; omega), List.take_of_length_le (by rw [List.length_drop]; omega)]
  · rw [List.drop_eq_nil_of_le (as := xs) (i := j) (by omega), List.drop_eq_nil_of_le (by rw [Nat.min_eq_right (by omega)]; omega), List.take_nil, List.take_nil]
theorem cutA_rest {α : Type} {f : α → As} {xs : List α} {j : Nat} : cutA (xs.map f) (some (j : Int)) none = (xs.drop j).map f := by
  unfold cutA
  rw [HT.sIx_nat, HT.sIx_none, List.length_map, ← List.map_drop, ← List.map_take]
  congr 1
  by_cases hj : j ≤ xs.length
  · rw [Nat.min_eq_left hj, List.take_of_length_le (by rw [List.length_drop]; omega)]
  · rw [List.drop_eq_nil_of_le (as := xs) (i := j) (by omega), List.drop_eq_nil_of_le (by rw [Nat.min_eq_right (by omega)]; omega), List.take_nil]
end
/-! ## what laws draw by -/
def mix (c k : Int) : Int :=
  let n := c % 2147483647 + 7919 * k + 1
  let m := (n * n + 48271 * n + 11) % 2147483647
  (m * m + 69621 * m + k) % 2147483647
theorem mix_lo (c k : Int) : 0 ≤ mix c k := Int.emod_nonneg _ (by decide)
theorem mix_hi (c k : Int) : mix c k < 2147483647 := Int.emod_lt_of_pos _ (by decide)
/-- a row that is one -/
structure GoodRow (few : Int) (m : Nat) (row : List Pie) : Prop where
  len : row.length ≤ m
  each : ∀ p ∈ row, 0 ≤ p.1 ∧ p.1 ≤ 1000000000000 ∧ 0 ≤ p.2.1 ∧ p.2.1 < few ∧ 1 ≤ p.2.2.1 ∧ p.2.2.1 ≤ 1000000 ∧ 1 ≤ p.2.2.2 ∧ p.2.2.2 ≤ 1000000
  up : row.Pairwise fun a b => a.1 ≤ b.1
end Y

local macro_rules | `(tactic| walk_at "y") => `(tactic| first | assumption | trivial | decide +kernel | (exact ⟨by decide +kernel, by decide +kernel⟩) | omega | (dsimp only; omega) | (dsimp only; decide +kernel))
local macro_rules | `(tactic| walk_at "ty") => `(tactic| first | exact Y.ty_int | exact Y.ty_fq | exact Y.ty_fr | exact Y.ty_tup | exact Y.ty_lst | exact Y.ty_bool)
local macro_rules | `(tactic| walk_at "kd") => `(tactic| first | exact Y.kd_fq | exact Y.kd_list Y.kd_fq | exact Y.kd_int | exact Y.kd_list Y.kd_int | exact Y.kd_pair | exact Y.kd_list Y.kd_pair)
local macro_rules | `(tactic| walk_at "ls") => `(tactic| first | exact Y.cutA_to | exact Y.cutA_from | exact Y.cutA_rest | exact Y.cutA_most | exact List.map_reverse.symm | exact (List.map_nil).symm | rfl)

namespace Y
open PySem L2 PySem.Spec
open PyProof.Rows (envOfC)
open C8 (tCut pss_cut)
def top (i : Nat) : Stmt := PySem.Challenge.pw_sharewheel_k13_what_came.main.body.getD i (.Pass ⟨0, 0, 0, 0⟩)
abbrev s_came : Stmt := top 1
theorem sc_came : FnScope ["row", "who", "start", "end", "piece"] ["row", "who", "start", "end"] (defScope s_came) := ⟨rfl, rfl, rfl, by decide +kernel, rfl, by decide +kernel, by decide +kernel⟩
abbrev s__law_cell_at : Stmt := top 3
theorem sc__law_cell_at : FnScope ["_law_script", "_law_k"] ["_law_script", "_law_k"] (defScope s__law_cell_at) := ⟨rfl, rfl, rfl, by decide +kernel, rfl, by decide +kernel, by decide +kernel⟩
abbrev s__law_mix : Stmt := top 4
theorem sc__law_mix : FnScope ["_law_cell", "_law_k", "_law_number"] ["_law_cell", "_law_k"] (defScope s__law_mix) := ⟨rfl, rfl, rfl, by decide +kernel, rfl, by decide +kernel, by decide +kernel⟩
abbrev s__law_row : Stmt := top 5
theorem sc__law_row : FnScope ["_law_script", "_law_few", "_law_at", "_law_row_here", "_law_cell", "_law_many", "_law_who"] ["_law_script", "_law_few"] (defScope s__law_row) := ⟨rfl, rfl, rfl, by decide +kernel, rfl, by decide +kernel, by decide +kernel⟩
abbrev s__law_time : Stmt := top 6
theorem sc__law_time : FnScope ["_law_row_here", "_law_cell"] ["_law_row_here", "_law_cell"] (defScope s__law_time) := ⟨rfl, rfl, rfl, by decide +kernel, rfl, by decide +kernel, by decide +kernel⟩
abbrev s__law_due : Stmt := top 7
theorem sc__law_due : FnScope ["_law_row_here", "_law_who", "_law_start", "_law_end", "_law_many", "_law_piece"] ["_law_row_here", "_law_who", "_law_start", "_law_end"] (defScope s__law_due) := ⟨rfl, rfl, rfl, by decide +kernel, rfl, by decide +kernel, by decide +kernel⟩
abbrev s__law_whole : Stmt := top 8
theorem sc__law_whole : FnScope ["_law_found"] ["_law_found"] (defScope s__law_whole) := ⟨rfl, rfl, rfl, by decide +kernel, rfl, by decide +kernel, by decide +kernel⟩
abbrev s_law : Stmt := top 9
theorem sc_law : FnScope ["_law_script", "_law_first", "_law_few", "_law_row_here", "_law_who", "_law_start", "_law_end", "_law_handed", "_law_found", "_law_half"] ["_law_script"] (defScope s_law) := ⟨rfl, rfl, rfl, by decide +kernel, rfl, by decide +kernel, by decide +kernel⟩
/-- what the text's top leaves -/
structure G (K : PySem.W.Frag) (mg : Str → Option Value) (C : Str → Addr) : Prop where
  b_bool : mg "bool" = none
  b_int : mg "int" = none
  b_isinstance : mg "isinstance" = none
  b_len : mg "len" = none
  b_list : mg "list" = none
  b_max : mg "max" = none
  b_sum : mg "sum" = none
  d_came : Tx K mg "came" s_came ["row", "who", "start", "end"]
  d__law_cell_at : Tx K mg "_law_cell_at" s__law_cell_at ["_law_script", "_law_k"]
  d__law_mix : Tx K mg "_law_mix" s__law_mix ["_law_cell", "_law_k"]
  d__law_row : Tx K mg "_law_row" s__law_row ["_law_script", "_law_few"]
  d__law_time : Tx K mg "_law_time" s__law_time ["_law_row_here", "_law_cell"]
  d__law_due : Tx K mg "_law_due" s__law_due ["_law_row_here", "_law_who", "_law_start", "_law_end"]
  d__law_whole : Tx K mg "_law_whole" s__law_whole ["_law_found"]
  d_law : Tx K mg "law" s_law ["_law_script"]
section
variable {P : Program} {w : World} {K : PySem.W.Frag} {mg : Str → Option Value} {base : Heap} {C : Str → Addr}
def cameC (w s e : Int) (p : Pie) : Bool := decide (p.2.1 = w) && (decide (s ≤ p.1) && decide (p.1 ≤ e))
def cameS (row : List Pie) (w s e : Int) : Int := ((row.filter (cameC w s e)).map fun p => p.2.2.1).sum
def sp_came (K : PySem.W.Frag) (C : Str → Addr) : Sp := CtF (fun a : List Pie × Int × Int × Int => [Ls K (a.1.map (Pc K)), I a.2.1, I a.2.2.1, I a.2.2.2]) (fun a => a.1.length ≤ 1000) (fun a => I (cameS a.1 a.2.1 a.2.2.1 a.2.2.2))
theorem ok_came (T : G K mg C)  : Dn P w K mg base 1 "came" ["row", "who", "start", "end"] (sp_came K C) := by
  refine T.d_came.ok sc_came (by first | exact CtF.len (fun _ => rfl) | exact CtE.len (fun _ => rfl) | exact sp_came_len) (fun f cdv A outer s H vs Q E hr h => ?_)
  obtain ⟨⟨row, w0, s0, e0⟩, F, sFH, ha, hp, hq⟩ := h
  have c := ctx_start (N := ["row", "who", "start", "end", "piece"]) sFH ha
  dsimp only at hp hq
  refine ⟨_, (pss_one (ps_ret (pe_callB (cr_sum rfl) (by rfl) T.b_sum (by decide +kernel) (pa_cons (pe_lc (own := [("piece", 4)]) rfl sc_came.nd (pi_list (pv 0)) (blkOk_by (N := ["row", "who", "start", "end", "piece"]) (sc := defScope s_came) (by decide +kernel)) (fun _ _ _ _ _ => (pg_name (i := 4) sc_came.nd rfl (by first | exact Or.inl rfl | exact Or.inr rfl))) (fun _ _ _ _ _ => (pts_one (PW.pt (pw_and (pt_cmpR op_eq (pe_ix (show IxR _ (rIxT K) from ix_tup) (pv 4) pe_int (fun _ _ => rfl)) (pv 1) (nomark _)) (pw_and1 (pt_chain op_le op_le (pv 2) (pe_ix (show IxR _ (rIxT K) from ix_tup) (pv 4) pe_int (fun _ _ => rfl)) (pv 3))))))) (fun _ _ _ _ _ => (pe_ix (show IxR _ (rIxT K) from ix_tup) (pv 4) pe_int (fun _ _ => rfl)))) pa_nil)))), ?_⟩
  refine st_ret c (ev_cb (ea_cons (ev_lc _ _ _ (ev_var rfl) (fun x => gt_name) (by decide) (fun x hx => (et_and (et_test (ev_eqI (ev_ixT (K := K) (ev_var rfl) ev_c rfl) (ev_var rfl))) (fun hb => (et_chain (ev_var rfl) (ev_ixT (K := K) (ev_var rfl) ev_c rfl) (ev_var rfl))))) (fun x hx hc => (ev_ixT (K := K) (ev_var rfl) ev_c rfl)) (by exact by dsimp only; omega)) ea_nil) rc_sum) (fun v F' H' c _ r => hq v F' H' c.ext c.sub ?_)
  exact r
def sp__law_cell_at (K : PySem.W.Frag) (C : Str → Addr) : Sp := CtF (fun a : List Int × Int => [Ls K (a.1.map fun n => I n), I a.2]) (fun a => 0 ≤ a.2) (fun a => I (cell a.1 a.2))
theorem ok__law_cell_at (T : G K mg C)  : Dn P w K mg base 1 "_law_cell_at" ["_law_script", "_law_k"] (sp__law_cell_at K C) := by
  refine T.d__law_cell_at.ok sc__law_cell_at (by first | exact CtF.len (fun _ => rfl) | exact CtE.len (fun _ => rfl) | exact sp__law_cell_at_len) (fun f cdv A outer s H vs Q E hr h => ?_)
  obtain ⟨⟨ns, k⟩, F, sFH, ha, hp, hq⟩ := h
  have c := ctx_start (N := ["_law_script", "_law_k"]) sFH ha
  refine ⟨_, (pss_cons (ps_if (pt_cmpR op_lt (pv 1) (pe_callB call_len_seq (by rfl) T.b_len (by decide +kernel) (pa_cons (pv 0) pa_nil)) (nomark _))
      (pss_one (ps_ret (pe_ix (show IxR _ (rIxL K) from ix_list) (pv 0) (pv 1) (fun _ _ => rfl))))
      pss_nil)
    (pss_one (ps_ret pe_int))), ?_⟩
  refine sq (st_if c (et_test (ev_I0 (ev_var rfl) (ev_cb (ea_cons (ev_var rfl) ea_nil) rc_lenL))) (fun hb F H c _ => ?_) (fun hb F H c _ => ?_))
  · have hk : k < (ns.length : Int) := by simpa using hb
    exact st_ret c (ev_ixL (ev_var rfl) (ev_var rfl) (atI_ints hp hk)) (fun v F' H' c _ r => hq v F' H' c.ext c.sub r)
  · have hk : ¬ k < (ns.length : Int) := by simpa using hb
    refine nxt (st_ret c ev_c (fun v F' H' c _ r => hq v F' H' c.ext c.sub ?_))
    show v = V.int (cell ns k)
    unfold cell
    rw [if_neg hk]; exact r
def sp__law_mix (K : PySem.W.Frag) (C : Str → Addr) : Sp := CtF (fun a : Int × Int => [I a.1, I a.2]) (fun a => 0 ≤ a.2 ∧ a.2 ≤ 100) (fun a => I (mix a.1 a.2))
theorem ok__law_mix (T : G K mg C)  : Dn P w K mg base 1 "_law_mix" ["_law_cell", "_law_k"] (sp__law_mix K C) := by
  refine T.d__law_mix.ok sc__law_mix (by first | exact CtF.len (fun _ => rfl) | exact CtE.len (fun _ => rfl) | exact sp__law_mix_len) (fun f cdv A outer s H vs Q E hr h => ?_)
  obtain ⟨⟨x, k⟩, F, sFH, ha, ⟨h0, h1⟩, hq⟩ := h
  have c := ctx_start (N := ["_law_cell", "_law_k", "_law_number"]) sFH ha
  dsimp only at h0 h1 hq
  refine ⟨_, (pss_cons (ps_set (i := 2) sc__law_mix.nd rfl (by first | exact Or.inl rfl | exact Or.inr rfl) (pe_op op_add (pe_op op_add (pe_op op_mod (pv 0) pe_int) (pe_op op_mulW pe_int (pv 1))) pe_int))
    (pss_cons (ps_set (i := 2) sc__law_mix.nd rfl (by first | exact Or.inl rfl | exact Or.inr rfl) (pe_op op_mod (pe_op op_add (pe_op op_add (pe_op op_mulW (pv 2) (pv 2)) (pe_op op_mulW pe_int (pv 2))) pe_int) pe_int))
    (pss_one (ps_ret (pe_op op_mod (pe_op op_add (pe_op op_add (pe_op op_mulW (pv 2) (pv 2)) (pe_op op_mulW pe_int (pv 2))) (pv 1)) pe_int))))), ?_⟩
  have bk : Bt 7 k := by unfold Bt; omega
  have b0 : Bt 31 (x % 2147483647) := by unfold Bt; omega
  have b7 : Bt 13 7919 := by unfold Bt; decide
  have b4 : Bt 16 48271 := by unfold Bt; decide
  have b6 : Bt 17 69621 := by unfold Bt; decide
  refine sq (st_set c (ev_I0 (ev_I0 (ev_I (ev_var rfl) ev_c (by walk_at "y")) (ev_I ev_c (ev_var rfl) (by exact b7.mulW bk))) ev_c) (fun F H σ c _ => ?_))
  obtain ⟨n, hn⟩ : ∃ n, x % 2147483647 + 7919 * k + 1 = n := ⟨_, rfl⟩
  have bn : Bt 32 n := by unfold Bt; omega
  simp only [hn] at c
  refine sq (st_set c (ev_I (ev_I0 (ev_I0 (ev_I (ev_var rfl) (ev_var rfl) (by exact bn.mulW bn)) (ev_I ev_c (ev_var rfl) (by exact b4.mulW bn))) ev_c) ev_c (by walk_at "y")) (fun F H σ c _ => ?_))
  obtain ⟨m, hm⟩ : ∃ m, (n * n + 48271 * n + 11) % 2147483647 = m := ⟨_, rfl⟩
  have bm : Bt 31 m := by unfold Bt; omega
  simp only [hm] at c
  refine st_ret c (ev_I (ev_I0 (ev_I0 (ev_I (ev_var rfl) (ev_var rfl) (by exact bm.mulW bm)) (ev_I ev_c (ev_var rfl) (by exact b6.mulW bm))) (ev_var rfl)) ev_c (by walk_at "y")) (fun v F' H' c _ r => hq v F' H' c.ext c.sub ?_)
  have e : mix x k = (m * m + 69621 * m + k) % 2147483647 := by
    unfold mix
    dsimp only
    rw [hn, hm]
  show v = V.int (mix x k)
  rw [e]
  exact r
def GoodN (few : Int) (k : Nat) (at0 : Int) (row : List Pie) : Prop := row.length = k ∧ (∀ p ∈ row, 0 ≤ p.1 ∧ p.1 ≤ at0 ∧ 0 ≤ p.2.1 ∧ p.2.1 < few ∧ 1 ≤ p.2.2.1 ∧ p.2.2.1 ≤ 1000000 ∧ 1 ≤ p.2.2.2 ∧ p.2.2.2 ≤ 1000000) ∧ (row.Pairwise fun a b => a.1 ≤ b.1) ∧ 0 ≤ at0 ∧ at0 ≤ k * 10000000000
theorem GoodN.turn {few at0 d w l s : Int} {k : Nat} {row : List Pie} (h : GoodN few k at0 row) (d0 : 0 ≤ d) (d1 : d ≤ 10000000000) (w0 : 0 ≤ w) (w1 : w < few) (l0 : 1 ≤ l) (l1 : l ≤ 1000000) (s0 : 1 ≤ s) (s1 : s ≤ 1000000) : GoodN few (k + 1) (at0 + d) (row ++ [(at0 + d, w, l, s)]) := by
  obtain ⟨h1, h2, h3, h4, h5⟩ := h
  refine ⟨by rw [List.length_append, h1]; rfl, fun p hp => ?_, ?_, by omega, by omega⟩
  · rcases List.mem_append.mp hp with hp | hp
    · have := h2 p hp
      omega
    · rw [List.mem_singleton.mp hp]
      dsimp only
      omega
  · rw [List.pairwise_append]
    refine ⟨h3, List.pairwise_singleton _ _, fun a ha b hb => ?_⟩
    rw [List.mem_singleton.mp hb]
    have := h2 a ha
    dsimp only
    omega
def sp__law_row (K : PySem.W.Frag) (C : Str → Addr) : Sp := CtF (fun a : List Int × Int => [Ls K (a.1.map fun n => I n), I a.2]) (fun a => 1 ≤ a.2 ∧ a.2 ≤ 12) (fun a => Xs (GoodRow a.2 60) (fun row : List Pie => Ls K (row.map (Pc K))))
theorem ok__law_row (T : G K mg C) (D__law_mix : Dn P w K mg base 1 "_law_mix" ["_law_cell", "_law_k"] (sp__law_mix K C)) : Dn P w K mg base 2 "_law_row" ["_law_script", "_law_few"] (sp__law_row K C) := by
  refine T.d__law_row.ok sc__law_row (by first | exact CtF.len (fun _ => rfl) | exact CtE.len (fun _ => rfl) | exact sp__law_row_len) (fun f cdv A outer s H vs Q E hr h => ?_)
  obtain ⟨⟨ns, few⟩, F, sFH, ha, ⟨hf0, hf1⟩, hq⟩ := h
  have c := ctx_start (N := ["_law_script", "_law_few", "_law_at", "_law_row_here", "_law_cell", "_law_many", "_law_who"]) sFH ha
  dsimp only at hf0 hf1 hq
  refine ⟨_, (pss_cons (ps_set (i := 2) sc__law_row.nd rfl (by first | exact Or.inl rfl | exact Or.inr rfl) pe_int)
    (pss_cons (ps_set (i := 3) sc__law_row.nd rfl (by first | exact Or.inl rfl | exact Or.inr rfl) (pe_lst pa_nil))
    (pss_cons (ps_for PassesOwn.never rfl (pi_list (pe_slice sl_list (pv 0) (po_some pe_int) (po_some pe_int))) (pg_name (i := 4) sc__law_row.nd rfl (by first | exact Or.inl rfl | exact Or.inr rfl))
      (pss_cons (ps_set (i := 2) sc__law_row.nd rfl (by first | exact Or.inl rfl | exact Or.inr rfl) (pe_op op_add (pv 2) (pe_op op_mod (pe_d D__law_mix (hr.mono (by decide)) (by rfl) (pa_cons (pv 4) (pa_cons pe_int pa_nil))) (pe_ix (show IxR _ (rIxL K) from ix_list) (pe_lst (pa_cons pe_int (pa_cons (pe_op op_pow pe_int pe_int) pa_nil))) (pe_op op_mod (pv 4) pe_int) (fun _ _ => rfl)))))
      (pss_cons (ps_set (i := 5) sc__law_row.nd rfl (by first | exact Or.inl rfl | exact Or.inr rfl) (pe_ix (show IxR _ (rIxL K) from ix_list) (pe_lst (pa_cons pe_int (pa_cons (pe_op op_pow pe_int pe_int) pa_nil))) (pe_op op_mod (pe_op op_fdivW (pv 4) pe_int) pe_int) (fun _ _ => rfl)))
      (pss_cons (ps_set (i := 6) sc__law_row.nd rfl (by first | exact Or.inl rfl | exact Or.inr rfl) (pe_op op_mod (pe_d D__law_mix (hr.mono (by decide)) (by rfl) (pa_cons (pv 4) (pa_cons pe_int pa_nil))) (pv 1)))
      (pss_one (ps_expr (pe_bm PySem.F.plainAttrs_list PySem.F.slot_list_append PySem.F.type_list_append mt_append (pv 3) (pa_cons (pe_tup (pa_cons (pv 2) (pa_cons (pv 6) (pa_cons (pe_op op_add pe_int (pe_op op_mod (pe_d D__law_mix (hr.mono (by decide)) (by rfl) (pa_cons (pv 4) (pa_cons pe_int pa_nil))) (pv 5))) (pa_cons (pe_op op_add pe_int (pe_op op_mod (pe_d D__law_mix (hr.mono (by decide)) (by rfl) (pa_cons (pv 4) (pa_cons pe_int pa_nil))) (pv 5))) pa_nil))))) pa_nil))))))))
    (pss_one (ps_ret (pv 3)))))), ?_⟩
  refine sq (st_set c ev_c (fun F H σ c _ => ?_))
  refine sq (st_nil c (fun p F H σ c _ => ?_))
  refine sq (st_for (xs := (ns.drop 3).take (60 - 3)) (f := fun n => I n) (fun i : Int × List Pie × Option As × Option As × Option As => [some (Ls K (ns.map fun n => I n)), some (I few), some (I i.1), some (Rf p), i.2.2.1, i.2.2.2.1, i.2.2.2.2]) (fun x i => [some (Ls K (ns.map fun n => I n)), some (I few), some (I i.1), some (Rf p), some (I x), i.2.2.2.1, i.2.2.2.2]) (fun i => [(p, oL (i.2.1.map (Pc K)))]) (fun k i => GoodN few k i.1 i.2.1) (0, [], none, none, none) c (ev_ls2 (ev_slLk (lk (ev_var rfl)) (eo_some ev_c) (eo_some ev_c)) (by walk_at "ls")) ⟨rfl, fun _ h => absurd h List.not_mem_nil, List.Pairwise.nil, by decide, by decide⟩ (fun x i => gt_name) ?_ ?_)
  · rintro k x ⟨t, row, o1, o2, o3⟩ G1 F H σ N hk pg c hN
    dsimp only at pg
    have hkl : k < 60 - 3 := by have := (List.getElem?_eq_some_iff.mp hk).1; rw [List.length_take] at this; omega
    have hl : (row.map (Pc K)).length ≤ 100000 := by rw [List.length_map, pg.1]; omega
    have m1 := mix_lo x 1
    obtain ⟨d, hd⟩ : ∃ d, mix x 1 % (if x % 2 = 0 then 3 else 10000000000) = d := ⟨_, rfl⟩
    have dq : (0 : Int) < (if x % 2 = 0 then 3 else 10000000000) := by split <;> decide
    have d0 : 0 ≤ d := by rw [← hd]; exact Int.emod_nonneg _ (Int.ne_of_gt dq)
    have d1 : d ≤ 10000000000 := by
      have := Int.emod_lt_of_pos (mix x 1) dq
      rw [hd] at this
      split at this <;> omega
    refine sq (st_set c (ev_I0 (ev_var rfl) (ev_I (ev_call (_, _) (ea_cons (ev_var rfl) (ea_cons ev_c ea_nil)) (by walk_at "y")) (ev_ixLk (lk (ev_lst (K := K) (ea_cons ev_c (ea_cons (ev_k (n := 10000000000) (ev_I ev_c ev_c (by walk_at "y")) (by decide +kernel)) ea_nil)))) (ev_I (ev_var rfl) ev_c (by walk_at "y")) (by exact atI_two _ _ _)) (by exact dq))) (fun F H σ c _ => ?_))
    simp only [hd] at c
    refine sq (st_set c (ev_ixLk (lk (ev_lst (K := K) (ea_cons ev_c (ea_cons (ev_k (n := 1000000) (ev_I ev_c ev_c (by walk_at "y")) (by decide +kernel)) ea_nil)))) (ev_I (ev_I (ev_var rfl) ev_c (by walk_at "y")) ev_c (by walk_at "y")) (by exact atI_two _ _ _)) (fun F H σ c _ => ?_))
    obtain ⟨mn, hmn⟩ : ∃ mn, (if x / 2 % 2 = 0 then (9 : Int) else 1000000) = mn := ⟨_, rfl⟩
    simp only [hmn] at c
    have mn0 : 0 < mn := by rw [← hmn]; split <;> decide
    have mn1 : mn ≤ 1000000 := by rw [← hmn]; split <;> decide
    refine sq (st_set c (ev_I (ev_call (_, _) (ea_cons (ev_var rfl) (ea_cons ev_c ea_nil)) (by walk_at "y")) (ev_var rfl) (by exact by omega)) (fun F H σ c _ => ?_))
    refine st_app c (ev_var rfl) (j := 0) rfl (ev_pc (K := K) (ea_cons (ev_var rfl) (ea_cons (ev_var rfl) (ea_cons (ev_I0 ev_c (ev_I (ev_call (_, _) (ea_cons (ev_var rfl) (ea_cons ev_c ea_nil)) (by walk_at "y")) (ev_var rfl) (by exact mn0))) (ea_cons (ev_I0 ev_c (ev_I (ev_call (_, _) (ea_cons (ev_var rfl) (ea_cons ev_c ea_nil)) (by walk_at "y")) (ev_var rfl) (by exact mn0))) ea_nil))))) hl (fun F H c _ => ?_)
    have e1 := Int.emod_nonneg (mix x 2) (b := few) (by omega)
    have e2 := Int.emod_lt_of_pos (mix x 2) (b := few) (by omega)
    have e3 := Int.emod_nonneg (mix x 3) (Int.ne_of_gt mn0)
    have e4 := Int.emod_lt_of_pos (mix x 3) mn0
    have e5 := Int.emod_nonneg (mix x 4) (Int.ne_of_gt mn0)
    have e6 := Int.emod_lt_of_pos (mix x 4) mn0
    have gg := pg.turn (d := d) (w := mix x 2 % few) (l := 1 + mix x 3 % mn) (s := 1 + mix x 4 % mn) d0 d1 e1 e2 (by omega) (by omega) (by omega) (by omega)
    refine hN (t + d, row ++ [(t + d, mix x 2 % few, 1 + mix x 3 % mn, 1 + mix x 4 % mn)], some (I x), some (I mn), some (I (mix x 2 % few))) F H σ gg ?_
    rw [List.map_append]
    exact c
  · rintro ⟨t, row, o1, o2, o3⟩ F H σ pg c
    dsimp only at pg
    refine st_retL (K := K) (j := 0) c (ev_var rfl) rfl rdL rfl (fun v F' H' c _ r => hq v F' H' c.ext c.sub ⟨row, ?_, r⟩)
    have hl : ((ns.drop 3).take (60 - 3)).length ≤ 60 - 3 := by rw [List.length_take]; omega
    obtain ⟨h1, h2, h3, h4, h5⟩ := pg
    exact ⟨by omega, fun q hq => by have := h2 q hq; omega, h3⟩
def sp__law_time (K : PySem.W.Frag) (C : Str → Addr) : Sp := CtF (fun a : List Pie × Int => [Ls K (a.1.map (Pc K)), I a.2]) (fun a => a.1.length ≤ 1000) (fun a => Xs (fun _ : Int => True) (fun n => I n))
theorem ok__law_time (T : G K mg C)  : Dn P w K mg base 1 "_law_time" ["_law_row_here", "_law_cell"] (sp__law_time K C) := by
  refine T.d__law_time.ok sc__law_time (by first | exact CtF.len (fun _ => rfl) | exact CtE.len (fun _ => rfl) | exact sp__law_time_len) (fun f cdv A outer s H vs Q E hr h => ?_)
  obtain ⟨⟨row, x⟩, F, sFH, ha, hp, hq⟩ := h
  have c := ctx_start (N := ["_law_row_here", "_law_cell"]) sFH ha
  dsimp only at hp hq
  refine ⟨_, (pss_cons (ps_if (PW.pt (pw_or (pt_cmpR (op_eqD hr.units) (pv 0) (pe_lst pa_nil) (nomark _)) (pw_or1 (pt_cmpR op_eq (pe_op op_mod (pv 1) pe_int) pe_int (nomark _)))))
      (pss_one (ps_ret (pe_op op_mod (pe_op op_fdivW (pv 1) pe_int) (pe_op op_add (pe_op op_mulW pe_int (pe_op op_pow pe_int pe_int)) pe_int))))
      pss_nil)
    (pss_one (ps_ret (pe_callB (call_max2 rfl) (by rfl) T.b_max (by decide +kernel) (pa_cons pe_int (pa_cons (pe_op op_sub (pe_op op_add (pe_ix (show IxR _ (rIxT K) from ix_tup) (pe_ix (show IxR _ (rIxL K) from ix_list) (pv 0) (pe_op op_mod (pe_op op_fdivW (pv 1) pe_int) (pe_callB call_len_seq (by rfl) T.b_len (by decide +kernel) (pa_cons (pv 0) pa_nil))) (fun _ _ => rfl)) pe_int (fun _ _ => rfl)) (pe_op op_mod (pv 1) pe_int)) pe_int) pa_nil)))))), ?_⟩
  refine sq (st_if c (et_or (et_test (ev_cmpNil false (kd_pc (K := K)) (lk (ev_var rfl)))) (fun hb => (et_test (ev_eqI (ev_I (ev_var rfl) ev_c (by walk_at "y")) ev_c)))) (fun hb F H c _ => ?_) (fun hb F H c _ => ?_))
  · refine st_ret c (ev_I (ev_I (ev_var rfl) ev_c (by walk_at "y")) (ev_k (n := 2000000000001) (ev_I0 (ev_I ev_c (ev_I ev_c ev_c (by walk_at "y")) (by walk_at "y")) ev_c) (by decide +kernel)) (by walk_at "y")) (fun v F' H' c _ r => hq v F' H' c.ext c.sub ?_)
    exact ⟨_, trivial, r⟩
  refine nxt ?_
  have hne : row ≠ [] := by
    intro z
    subst z
    simp at hb
  have hl : (0 : Int) < (row.length : Int) := by have := List.length_pos_iff.mpr hne; omega
  obtain ⟨q, hq1, hq2⟩ := atI_map (f := Pc K) (xs := row) (Int.emod_nonneg (x / 8) (Int.ne_of_gt hl)) (Int.emod_lt_of_pos (x / 8) hl)
  refine st_ret c (ev_cb (ea_cons ev_c (ea_cons (ev_I0 (ev_I0 (ev_ixT (K := K) (ev_ixLk (lk (ev_var rfl)) (ev_I (ev_I (ev_var rfl) ev_c (by walk_at "y")) (ev_lenLk (lk (ev_var rfl))) (by exact by rw [List.length_map]; exact hl)) (by exact by rw [List.length_map]; exact hq2)) ev_c rfl) (ev_I (ev_var rfl) ev_c (by walk_at "y"))) ev_c) ea_nil)) rc_max2) (fun v F' H' c _ r => hq v F' H' c.ext c.sub ?_)
  exact ⟨_, trivial, r⟩
def sp__law_due (K : PySem.W.Frag) (C : Str → Addr) : Sp := CtF (fun a : List Pie × Int × Int × Int => [Ls K (a.1.map (Pc K)), I a.2.1, I a.2.2.1, I a.2.2.2]) (fun a => True) (fun a => I (cameS a.1 a.2.1 a.2.2.1 a.2.2.2))
theorem cameS_take {row : List Pie} {w s e : Int} {k : Nat} {p : Pie} (h : row[k]? = some p) : cameS (row.take (k + 1)) w s e = cameS (row.take k) w s e + (if cameC w s e p = true then p.2.2.1 else 0) := by
  unfold cameS
  rw [filter_take h, List.map_append, List.sum_append]
  split <;> simp
theorem ok__law_due (T : G K mg C)  : Dn P w K mg base 1 "_law_due" ["_law_row_here", "_law_who", "_law_start", "_law_end"] (sp__law_due K C) := by
  refine T.d__law_due.ok sc__law_due (by first | exact CtF.len (fun _ => rfl) | exact CtE.len (fun _ => rfl) | exact sp__law_due_len) (fun f cdv A outer s H vs Q E hr h => ?_)
  obtain ⟨⟨row, w0, s0, e0⟩, F, sFH, ha, hp, hq⟩ := h
  have c := ctx_start (N := ["_law_row_here", "_law_who", "_law_start", "_law_end", "_law_many", "_law_piece"]) sFH ha
  dsimp only at hq
  refine ⟨_, (pss_cons (ps_set (i := 4) sc__law_due.nd rfl (by first | exact Or.inl rfl | exact Or.inr rfl) pe_int)
    (pss_cons (ps_for PassesOwn.never rfl (pi_list (pv 0)) (pg_name (i := 5) sc__law_due.nd rfl (by first | exact Or.inl rfl | exact Or.inr rfl))
      (pss_one (ps_if (PW.pt (pw_and (pt_cmpR op_eq (pe_ix (show IxR _ (rIxT K) from ix_tup) (pv 5) pe_int (fun _ _ => rfl)) (pv 1) (nomark _)) (pw_and (pt_cmpR op_ge (pe_ix (show IxR _ (rIxT K) from ix_tup) (pv 5) pe_int (fun _ _ => rfl)) (pv 2) (nomark _)) (pw_and1 (pt_cmpR op_le (pe_ix (show IxR _ (rIxT K) from ix_tup) (pv 5) pe_int (fun _ _ => rfl)) (pv 3) (nomark _))))))
        (pss_one (ps_set (i := 4) sc__law_due.nd rfl (by first | exact Or.inl rfl | exact Or.inr rfl) (pe_op op_add (pv 4) (pe_ix (show IxR _ (rIxT K) from ix_tup) (pv 5) pe_int (fun _ _ => rfl)))))
        pss_nil)))
    (pss_one (ps_ret (pv 4))))), ?_⟩
  refine sq (st_set c ev_c (fun F H σ c _ => ?_))
  refine sq (st_for (xs := row) (f := Pc K) (fun i : Int × Option As => [some (Ls K (row.map (Pc K))), some (I w0), some (I s0), some (I e0), some (I i.1), i.2]) (fun x i => [some (Ls K (row.map (Pc K))), some (I w0), some (I s0), some (I e0), some (I i.1), some (Pc K x)]) (fun _ => []) (fun k i => i.1 = cameS (row.take k) w0 s0 e0) (0, none) c (ev_var rfl) rfl (fun x i => gt_name) ?_ ?_)
  · rintro k x ⟨t, o⟩ G1 F H σ N hk p c hN
    dsimp only at p
    have e1 := cameS_take (w := w0) (s := s0) (e := e0) hk
    refine st_if c (et_and (et_test (ev_eqI (ev_ixT (K := K) (ev_var rfl) ev_c rfl) (ev_var rfl))) (fun hb => (et_and (et_test (ev_I0 (ev_ixT (K := K) (ev_var rfl) ev_c rfl) (ev_var rfl))) (fun hb => (et_test (ev_I0 (ev_ixT (K := K) (ev_var rfl) ev_c rfl) (ev_var rfl))))))) (fun hb F H c _ => ?_) (fun hb F H c _ => ?_)
    · have hc : cameC w0 s0 e0 x = true := hb
      rw [if_pos hc] at e1
      refine st_set c (ev_I0 (ev_var rfl) (ev_ixT (K := K) (ev_var rfl) ev_c rfl)) (fun F H σ c _ => ?_)
      exact hN (t + x.2.2.1, some (Pc K x)) F H σ (by dsimp only; rw [e1, p]) c
    · have hc : ¬ cameC w0 s0 e0 x = true := by
        show ¬ (_ = true)
        rw [show cameC w0 s0 e0 x = false from hb]
        exact Bool.false_ne_true
      rw [if_neg hc] at e1
      exact nxt (hN (t, some (Pc K x)) F H _ (by dsimp only; rw [e1, p, Int.add_zero]) c)
  · rintro ⟨t, o⟩ F H σ p c
    dsimp only at p
    rw [List.take_length] at p
    refine st_ret c (ev_var rfl) (fun v F' H' c _ r => hq v F' H' c.ext c.sub ?_)
    rw [← p]
    exact r
def sp__law_whole (K : PySem.W.Frag) (C : Str → Addr) : Sp := CtF (fun a : Int => [I a]) (fun _ => True) (fun _ => B true)
theorem ok__law_whole (T : G K mg C)  : Dn P w K mg base 1 "_law_whole" ["_law_found"] (sp__law_whole K C) := by
  refine T.d__law_whole.ok sc__law_whole (by first | exact CtF.len (fun _ => rfl) | exact CtE.len (fun _ => rfl) | exact sp__law_whole_len) (fun f cdv A outer s H vs Q E hr h => ?_)
  obtain ⟨n, F, sFH, ha, hp, hq⟩ := h
  have c := ctx_start (N := ["_law_found"]) sFH ha
  refine ⟨_, (pss_one (ps_ret (pe_and (pe_callB call_isi (by rfl) T.b_isinstance (by decide +kernel) (pa_cons (pv 0) (pa_cons (pe_bltn (by rfl) T.b_int (u := .type "int") (v := .ty "int") (by decide +kernel) rfl) pa_nil))) (pe_one (pe_not (pe_callB call_isi (by rfl) T.b_isinstance (by decide +kernel) (pa_cons (pv 0) (pa_cons (pe_bltn (by rfl) T.b_bool (u := .type "bool") (v := .ty "bool") (by decide +kernel) rfl) pa_nil)))))))), ?_⟩
  exact st_ret c (ev_andV (ev_cb (ea_cons (ev_var rfl) (ea_cons ev_c ea_nil)) (rc_isi (.ty _) (by walk_at "ty") (kit_ty (r := true) rfl))) (fun hb => (ev_notV (ev_cb (ea_cons (ev_var rfl) (ea_cons ev_c ea_nil)) (rc_isi (.ty _) (by walk_at "ty") (kit_ty (r := false) rfl)))))) (fun v F' H' c _ r => hq v F' H' c.ext c.sub r)
def sp_law (K : PySem.W.Frag) (C : Str → Addr) : Sp := LawSp K
theorem ok_law (T : G K mg C) (D__law_cell_at : Dn P w K mg base 1 "_law_cell_at" ["_law_script", "_law_k"] (sp__law_cell_at K C)) (D__law_mix : Dn P w K mg base 1 "_law_mix" ["_law_cell", "_law_k"] (sp__law_mix K C)) (D__law_row : Dn P w K mg base 2 "_law_row" ["_law_script", "_law_few"] (sp__law_row K C)) (D__law_time : Dn P w K mg base 1 "_law_time" ["_law_row_here", "_law_cell"] (sp__law_time K C)) (D_came : Dn P w K mg base 1 "came" ["row", "who", "start", "end"] (sp_came K C)) (D__law_whole : Dn P w K mg base 1 "_law_whole" ["_law_found"] (sp__law_whole K C)) (D__law_due : Dn P w K mg base 1 "_law_due" ["_law_row_here", "_law_who", "_law_start", "_law_end"] (sp__law_due K C)) : Dn P w K mg base 3 "law" ["_law_script"] (sp_law K C) := by
  refine T.d_law.ok sc_law (by first | exact CtF.len (fun _ => rfl) | exact CtE.len (fun _ => rfl) | exact sp_law_len) (fun f cdv A outer s H vs Q E hr h => ?_)
  obtain ⟨ns, F, sFH, ha, hp, hq⟩ := h
  have c := ctx_start (N := ["_law_script", "_law_first", "_law_few", "_law_row_here", "_law_who", "_law_start", "_law_end", "_law_handed", "_law_found", "_law_half"]) sFH ha
  refine ⟨_, (pss_cons (ps_set (i := 1) sc_law.nd rfl (by first | exact Or.inl rfl | exact Or.inr rfl) (pe_d D__law_cell_at (hr.mono (by decide)) (by rfl) (pa_cons (pv 0) (pa_cons pe_int pa_nil))))
    (pss_cons (ps_set (i := 2) sc_law.nd rfl (by first | exact Or.inl rfl | exact Or.inr rfl) (pe_op op_add pe_int (pe_op op_mod (pe_d D__law_mix (hr.mono (by decide)) (by rfl) (pa_cons (pv 1) (pa_cons pe_int pa_nil))) pe_int)))
    (pss_cons (ps_set (i := 3) sc_law.nd rfl (by first | exact Or.inl rfl | exact Or.inr rfl) (pe_d D__law_row (hr.mono (by decide)) (by rfl) (pa_cons (pv 0) (pa_cons (pv 2) pa_nil))))
    (pss_cons (ps_set (i := 4) sc_law.nd rfl (by first | exact Or.inl rfl | exact Or.inr rfl) (pe_op op_mod (pe_d D__law_mix (hr.mono (by decide)) (by rfl) (pa_cons (pv 1) (pa_cons pe_int pa_nil))) (pv 2)))
    (pss_cut (ps_if (pt_cmpR op_eq (pe_op op_mod (pv 1) pe_int) pe_int (nomark _))
      (pss_one (ps_set (i := 4) sc_law.nd rfl (by first | exact Or.inl rfl | exact Or.inr rfl) pe_int))
      pss_nil)
    (pss_cons (ps_set (i := 5) sc_law.nd rfl (by first | exact Or.inl rfl | exact Or.inr rfl) (pe_d D__law_time (hr.mono (by decide)) (by rfl) (pa_cons (pv 3) (pa_cons (pe_d D__law_cell_at (hr.mono (by decide)) (by rfl) (pa_cons (pv 0) (pa_cons pe_int pa_nil))) pa_nil))))
    (pss_cons (ps_set (i := 6) sc_law.nd rfl (by first | exact Or.inl rfl | exact Or.inr rfl) (pe_d D__law_time (hr.mono (by decide)) (by rfl) (pa_cons (pv 3) (pa_cons (pe_d D__law_cell_at (hr.mono (by decide)) (by rfl) (pa_cons (pv 0) (pa_cons pe_int pa_nil))) pa_nil))))
    (pss_cons (ps_set (i := 7) sc_law.nd rfl (by first | exact Or.inl rfl | exact Or.inr rfl) (pe_callTy call_list_of (by rfl) T.b_list (by decide +kernel) (pa_cons (pv 3) pa_nil)))
    (pss_cons (ps_set (i := 8) sc_law.nd rfl (by first | exact Or.inl rfl | exact Or.inr rfl) (pe_d D_came (hr.mono (by decide)) (by rfl) (pa_cons (pv 7) (pa_cons (pv 4) (pa_cons (pv 5) (pa_cons (pv 6) pa_nil))))))
    (pss_cons (ps_if (PW.pt (pw_or (pt_not (pt_val (pe_d D__law_whole (hr.mono (by decide)) (by rfl) (pa_cons (pv 8) pa_nil)))) (pw_or (pt_cmpR op_ne (pv 8) (pe_d D__law_due (hr.mono (by decide)) (by rfl) (pa_cons (pv 3) (pa_cons (pv 4) (pa_cons (pv 5) (pa_cons (pv 6) pa_nil))))) (nomark _)) (pw_or1 (pt_cmpR (op_neD hr.units) (pv 7) (pv 3) (nomark _))))))
      (pss_one (ps_ret pe_bl))
      pss_nil)
    (pss_cons (ps_set (i := 9) sc_law.nd rfl (by first | exact Or.inl rfl | exact Or.inr rfl) (pe_slice sl_list (pv 3) po_none (po_some (pe_op op_fdivW (pe_callB call_len_seq (by rfl) T.b_len (by decide +kernel) (pa_cons (pv 3) pa_nil)) pe_int))))
    (pss_cons (ps_if (pt_cmpR op_ne (pe_d D_came (hr.mono (by decide)) (by rfl) (pa_cons (pe_callTy call_list_of (by rfl) T.b_list (by decide +kernel) (pa_cons (pv 9) pa_nil)) (pa_cons (pv 4) (pa_cons (pv 5) (pa_cons (pv 6) pa_nil))))) (pe_d D__law_due (hr.mono (by decide)) (by rfl) (pa_cons (pv 9) (pa_cons (pv 4) (pa_cons (pv 5) (pa_cons (pv 6) pa_nil))))) (nomark _))
      (pss_one (ps_ret pe_bl))
      pss_nil)
    (pss_one (ps_ret (pe_and (pe_cmpR op_eq (pe_d D_came (hr.mono (by decide)) (by rfl) (pa_cons (pv 7) (pa_cons (pv 4) (pa_cons (pv 5) (pa_cons (pv 6) pa_nil))))) (pv 8) (nomark _)) (pe_one (pe_cmpR op_eq (pe_d D_came (hr.mono (by decide)) (by rfl) (pa_cons (pv 7) (pa_cons (pv 4) (pa_cons (pe_op op_add (pv 6) pe_int) (pa_cons (pv 6) pa_nil))))) pe_int (nomark _)))))))))))))))))), ?_⟩
  refine sq (st_set c (ev_call (_, _) (ea_cons (ev_var rfl) (ea_cons ev_c ea_nil)) (by walk_at "y")) (fun F H σ c _ => ?_))
  obtain ⟨x, hx⟩ : ∃ x, cell ns 0 = x := ⟨_, rfl⟩
  simp only [hx] at c
  refine sq (st_set c (ev_I0 ev_c (ev_I (ev_call (_, _) (ea_cons (ev_var rfl) (ea_cons ev_c ea_nil)) (by walk_at "y")) ev_c (by walk_at "y"))) (fun F H σ c _ => ?_))
  obtain ⟨few, hfew⟩ : ∃ few, 1 + mix x 6 % 12 = few := ⟨_, rfl⟩
  simp only [hfew] at c
  have f0 : 1 ≤ few ∧ few ≤ 12 := by omega
  refine sq (st_set c (ev_call (_, _) (ea_cons (ev_var rfl) (ea_cons (ev_var rfl) ea_nil)) (by exact f0)) (fun F H σ c _ => ?_))
  obtain ⟨row, hrow, c⟩ := c.opn 3 rfl
  have hl := hrow.len
  refine sq (st_set c (ev_I (ev_call (_, _) (ea_cons (ev_var rfl) (ea_cons ev_c ea_nil)) (by walk_at "y")) (ev_var rfl) (by exact by omega)) (fun F H σ c _ => ?_))
  refine cut c (fun i : Int => [some (Ls K (ns.map fun n => I n)), some (I x), some (I few), some (Ls K (row.map (Pc K))), some (I i), none, none, none, none, none]) (fun _ => []) (fun i => True) (fun N hN => ?_) ?_
  · refine st_if c (et_test (ev_eqI (ev_I (ev_var rfl) ev_c (by walk_at "y")) ev_c)) (fun hb F H c _ => ?_) (fun hb F H c _ => ?_)
    · refine st_set c ev_c (fun F H σ c _ => ?_)
      exact hN _ F H σ trivial c
    · exact nxt (hN _ F H _ trivial c)
  rintro w F H σ _ c
  refine sq (st_set c (ev_call (_, _) (ea_cons (ev_var rfl) (ea_cons (ev_call (_, _) (ea_cons (ev_var rfl) (ea_cons ev_c ea_nil)) (by walk_at "y")) ea_nil)) (by exact by dsimp only; omega)) (fun F H σ c _ => ?_))
  obtain ⟨st, _, c⟩ := c.opn 5 rfl
  refine sq (st_set c (ev_call (_, _) (ea_cons (ev_var rfl) (ea_cons (ev_call (_, _) (ea_cons (ev_var rfl) (ea_cons ev_c ea_nil)) (by walk_at "y")) ea_nil)) (by exact by dsimp only; omega)) (fun F H σ c _ => ?_))
  obtain ⟨en, _, c⟩ := c.opn 6 rfl
  refine sq (st_set c (ev_listLk (lk (ev_var rfl))) (fun F H σ c _ => ?_))
  refine sq (st_set c (ev_call (_, _, _, _) (ea_cons (ev_var rfl) (ea_cons (ev_var rfl) (ea_cons (ev_var rfl) (ea_cons (ev_var rfl) ea_nil)))) (by exact by dsimp only; omega)) (fun F H σ c _ => ?_))
  refine sq (st_if c (et_or (et_not (et_B (ev_call (_) (ea_cons (ev_var rfl) ea_nil) (by walk_at "y")))) (fun hb => (et_or (et_test (ev_neI (ev_var rfl) (ev_call (_, _, _, _) (ea_cons (ev_var rfl) (ea_cons (ev_var rfl) (ea_cons (ev_var rfl) (ea_cons (ev_var rfl) ea_nil)))) (by walk_at "y")))) (fun hb => (et_test (ev_neK (kd_list (kd_pc (K := K))) (ev_var rfl) (ev_var rfl))))))) (fun hb F H c _ => ?_) (fun hb F H c _ => ?_))
  · exfalso
    simp at hb
  refine nxt ?_
  have eh : (row.length : Int) / 2 = ((row.length / 2 : Nat) : Int) := rfl
  refine sq (st_set c (ev_ls2 (ev_slLk (lk (ev_var rfl)) eo_none (eo_some (ev_k (n := ((row.length / 2 : Nat) : Int)) (ev_I (ev_lenLk (lk (ev_var rfl))) ev_c (by walk_at "y")) (by rw [List.length_map]; rfl)))) cutA_to) (fun F H σ c _ => ?_))
  have hh : (row.take (row.length / 2)).length ≤ 1000 := by rw [List.length_take]; omega
  refine sq (st_if c (et_test (ev_neI (ev_call (_, _, _, _) (ea_cons (ev_listLk (lk (ev_var rfl))) (ea_cons (ev_var rfl) (ea_cons (ev_var rfl) (ea_cons (ev_var rfl) ea_nil)))) (by exact hh)) (ev_call (_, _, _, _) (ea_cons (ev_var rfl) (ea_cons (ev_var rfl) (ea_cons (ev_var rfl) (ea_cons (ev_var rfl) ea_nil)))) (by walk_at "y")))) (fun hb F H c _ => ?_) (fun hb F H c _ => ?_))
  · exfalso
    simp at hb
  refine nxt ?_
  refine st_ret c (ev_andV (ev_eqI (ev_call (_, _, _, _) (ea_cons (ev_var rfl) (ea_cons (ev_var rfl) (ea_cons (ev_var rfl) (ea_cons (ev_var rfl) ea_nil)))) (by exact by dsimp only; omega)) (ev_var rfl)) (fun hb => (ev_eqI (ev_call (_, _, _, _) (ea_cons (ev_var rfl) (ea_cons (ev_var rfl) (ea_cons (ev_I0 (ev_var rfl) ev_c) (ea_cons (ev_var rfl) ea_nil)))) (by exact by dsimp only; omega)) ev_c))) (fun v F' H' c _ r => hq v F' H' c.ext c.sub ?_)
  rw [show v = V.bl _ from r]
  show V.bl _ = V.bl true
  have e0 : cameS row w (en + 1) en = 0 := by
    unfold cameS
    rw [List.filter_eq_nil_iff.mpr]
    · rfl
    · intro p _
      unfold cameC
      simp only [Bool.and_eq_true, decide_eq_true_eq]
      omega
  simp [e0]
end
/-! the end -/
theorem all_mk {l : PySem.W.OpenLaw} {w : World} {K : PySem.W.Frag} {h : Heap} {mg : Str → Option Value} {fa : Addr} (X : K.In h) (G0 : h.Ns mainGlobals mg) (hfa : mg "law" = some (.ref fa)) {f_came : Addr} {od0 an0 : Option Addr} {sl0 : Array (Option Value)} {oc0 kV0 dc0 pm0 cd0 ct0 : Value} {f__law_cell_at : Addr} {od1 an1 : Option Addr} {sl1 : Array (Option Value)} {oc1 kV1 dc1 pm1 cd1 ct1 : Value} {f__law_mix : Addr} {od2 an2 : Option Addr} {sl2 : Array (Option Value)} {oc2 kV2 dc2 pm2 cd2 ct2 : Value} {f__law_row : Addr} {od3 an3 : Option Addr} {sl3 : Array (Option Value)} {oc3 kV3 dc3 pm3 cd3 ct3 : Value} {f__law_time : Addr} {od4 an4 : Option Addr} {sl4 : Array (Option Value)} {oc4 kV4 dc4 pm4 cd4 ct4 : Value} {f__law_due : Addr} {od5 an5 : Option Addr} {sl5 : Array (Option Value)} {oc5 kV5 dc5 pm5 cd5 ct5 : Value} {f__law_whole : Addr} {od6 an6 : Option Addr} {sl6 : Array (Option Value)} {oc6 kV6 dc6 pm6 cd6 ct6 : Value} {f_law : Addr} {od7 an7 : Option Addr} {sl7 : Array (Option Value)} {oc7 kV7 dc7 pm7 cd7 ct7 : Value}
    (z_bool : PySem.W.nsIn K mainGlobals "bool" = some none)
    (z_int : PySem.W.nsIn K mainGlobals "int" = some none)
    (z_isinstance : PySem.W.nsIn K mainGlobals "isinstance" = some none)
    (z_len : PySem.W.nsIn K mainGlobals "len" = some none)
    (z_list : PySem.W.nsIn K mainGlobals "list" = some none)
    (z_max : PySem.W.nsIn K mainGlobals "max" = some none)
    (z_sum : PySem.W.nsIn K mainGlobals "sum" = some none)
    (a_came : PySem.W.nsIn K mainGlobals "came" = some (some (.ref f_came))) (l_came : K.lookup f_came = some ⟨oc0, od0, .func (PySem.W.fnOf "came" "came" (defArgs s_came) (defBody s_came) (defScope s_came) .none kV0 dc0 pm0 an0 cd0 ct0), sl0⟩) (c_came : PySem.W.codeIn K cd0 "came" = true) (k_came : PySem.W.keepIn K (.ref f_came) = true)
    (a__law_cell_at : PySem.W.nsIn K mainGlobals "_law_cell_at" = some (some (.ref f__law_cell_at))) (l__law_cell_at : K.lookup f__law_cell_at = some ⟨oc1, od1, .func (PySem.W.fnOf "_law_cell_at" "_law_cell_at" (defArgs s__law_cell_at) (defBody s__law_cell_at) (defScope s__law_cell_at) .none kV1 dc1 pm1 an1 cd1 ct1), sl1⟩) (c__law_cell_at : PySem.W.codeIn K cd1 "_law_cell_at" = true) (k__law_cell_at : PySem.W.keepIn K (.ref f__law_cell_at) = true)
    (a__law_mix : PySem.W.nsIn K mainGlobals "_law_mix" = some (some (.ref f__law_mix))) (l__law_mix : K.lookup f__law_mix = some ⟨oc2, od2, .func (PySem.W.fnOf "_law_mix" "_law_mix" (defArgs s__law_mix) (defBody s__law_mix) (defScope s__law_mix) .none kV2 dc2 pm2 an2 cd2 ct2), sl2⟩) (c__law_mix : PySem.W.codeIn K cd2 "_law_mix" = true) (k__law_mix : PySem.W.keepIn K (.ref f__law_mix) = true)
    (a__law_row : PySem.W.nsIn K mainGlobals "_law_row" = some (some (.ref f__law_row))) (l__law_row : K.lookup f__law_row = some ⟨oc3, od3, .func (PySem.W.fnOf "_law_row" "_law_row" (defArgs s__law_row) (defBody s__law_row) (defScope s__law_row) .none kV3 dc3 pm3 an3 cd3 ct3), sl3⟩) (c__law_row : PySem.W.codeIn K cd3 "_law_row" = true) (k__law_row : PySem.W.keepIn K (.ref f__law_row) = true)
    (a__law_time : PySem.W.nsIn K mainGlobals "_law_time" = some (some (.ref f__law_time))) (l__law_time : K.lookup f__law_time = some ⟨oc4, od4, .func (PySem.W.fnOf "_law_time" "_law_time" (defArgs s__law_time) (defBody s__law_time) (defScope s__law_time) .none kV4 dc4 pm4 an4 cd4 ct4), sl4⟩) (c__law_time : PySem.W.codeIn K cd4 "_law_time" = true) (k__law_time : PySem.W.keepIn K (.ref f__law_time) = true)
    (a__law_due : PySem.W.nsIn K mainGlobals "_law_due" = some (some (.ref f__law_due))) (l__law_due : K.lookup f__law_due = some ⟨oc5, od5, .func (PySem.W.fnOf "_law_due" "_law_due" (defArgs s__law_due) (defBody s__law_due) (defScope s__law_due) .none kV5 dc5 pm5 an5 cd5 ct5), sl5⟩) (c__law_due : PySem.W.codeIn K cd5 "_law_due" = true) (k__law_due : PySem.W.keepIn K (.ref f__law_due) = true)
    (a__law_whole : PySem.W.nsIn K mainGlobals "_law_whole" = some (some (.ref f__law_whole))) (l__law_whole : K.lookup f__law_whole = some ⟨oc6, od6, .func (PySem.W.fnOf "_law_whole" "_law_whole" (defArgs s__law_whole) (defBody s__law_whole) (defScope s__law_whole) .none kV6 dc6 pm6 an6 cd6 ct6), sl6⟩) (c__law_whole : PySem.W.codeIn K cd6 "_law_whole" = true) (k__law_whole : PySem.W.keepIn K (.ref f__law_whole) = true)
    (a_law : PySem.W.nsIn K mainGlobals "law" = some (some (.ref f_law))) (l_law : K.lookup f_law = some ⟨oc7, od7, .func (PySem.W.fnOf "law" "law" (defArgs s_law) (defBody s_law) (defScope s_law) .none kV7 dc7 pm7 an7 cd7 ct7), sl7⟩) (c_law : PySem.W.codeIn K cd7 "law" = true) (k_law : PySem.W.keepIn K (.ref f_law) = true) :
    ∃ fd : FuncData, (∀ (s : Shared) (v : Value), BindsTo s fd ⟨[v], []⟩ [("_law_script", v)]) ∧ ∀ base : Heap, K.In base → base.Ns mainGlobals mg → FnOk l.prog w K mg base (L2.CX l.prog w) 3 fa fd ["_law_script"] (LawSp K) := by
  have e := hfa.symm.trans (PySem.W.mg_of X G0 a_law)
  cases e
  have T : G K mg (fun x => 0) := { b_bool := PySem.W.mg_none_of X G0 z_bool, b_int := PySem.W.mg_none_of X G0 z_int, b_isinstance := PySem.W.mg_none_of X G0 z_isinstance, b_len := PySem.W.mg_none_of X G0 z_len, b_list := PySem.W.mg_none_of X G0 z_list, b_max := PySem.W.mg_none_of X G0 z_max, b_sum := PySem.W.mg_none_of X G0 z_sum, d_came := tx_mk X G0 a_came l_came c_came k_came (fun _ _ _ _ _ _ us hl => match us, hl with | [_, _, _, _], _ => rfl), d__law_cell_at := tx_mk X G0 a__law_cell_at l__law_cell_at c__law_cell_at k__law_cell_at (fun _ _ _ _ _ _ us hl => match us, hl with | [_, _], _ => rfl), d__law_mix := tx_mk X G0 a__law_mix l__law_mix c__law_mix k__law_mix (fun _ _ _ _ _ _ us hl => match us, hl with | [_, _], _ => rfl), d__law_row := tx_mk X G0 a__law_row l__law_row c__law_row k__law_row (fun _ _ _ _ _ _ us hl => match us, hl with | [_, _], _ => rfl), d__law_time := tx_mk X G0 a__law_time l__law_time c__law_time k__law_time (fun _ _ _ _ _ _ us hl => match us, hl with | [_, _], _ => rfl), d__law_due := tx_mk X G0 a__law_due l__law_due c__law_due k__law_due (fun _ _ _ _ _ _ us hl => match us, hl with | [_, _, _, _], _ => rfl), d__law_whole := tx_mk X G0 a__law_whole l__law_whole c__law_whole k__law_whole (fun _ _ _ _ _ _ us hl => match us, hl with | [_], _ => rfl), d_law := tx_mk X G0 a_law l_law c_law k_law (fun _ _ _ _ _ _ us hl => match us, hl with | [_], _ => rfl) }
  refine ⟨PySem.W.fnOf "law" "law" (defArgs s_law) (defBody s_law) (defScope s_law) .none kV7 dc7 pm7 an7 cd7 ct7, fun s v => .of_eq rfl, fun base _ _ => ?_⟩
  have D_came := ok_came (P := l.prog) (w := w) (base := base) T 
  have D__law_cell_at := ok__law_cell_at (P := l.prog) (w := w) (base := base) T 
  have D__law_mix := ok__law_mix (P := l.prog) (w := w) (base := base) T 
  have D__law_row := ok__law_row (P := l.prog) (w := w) (base := base) T D__law_mix
  have D__law_time := ok__law_time (P := l.prog) (w := w) (base := base) T 
  have D__law_due := ok__law_due (P := l.prog) (w := w) (base := base) T 
  have D__law_whole := ok__law_whole (P := l.prog) (w := w) (base := base) T 
  have D_law := ok_law (P := l.prog) (w := w) (base := base) T D__law_cell_at D__law_mix D__law_row D__law_time D_came D__law_whole D__law_due
  exact law_end D_law (PySem.W.mg_of X G0 a_law) l_law
theorem walk {l : PySem.W.OpenLaw} {q : Program} {loose : List Str} {XP : (Str → Option Value) → Heap → Prop} {YP : World → Heap → Prop} {d : DefRec} {K : Params → PySem.W.Frag} (hn : l.most = some 63) (hdf : d.params.defaults = [])
    (hY : ∀ (w : World) (h : Heap), YP w h → (K w.params).In h)
    (F : ∀ (w : World) (mg : Str → Option Value) (fa : Addr) (h : Heap), (K w.params).In h → h.Ns mainGlobals mg → mg d.name = some (.ref fa) →
      ∃ fd : FuncData, (∀ (s : Shared) (u : Value), BindsTo s fd ⟨[u], []⟩ [("_law_script", u)]) ∧ ∀ base : Heap, (K w.params).In base → base.Ns mainGlobals mg → FnOk l.prog w (K w.params) mg base (L2.CX l.prog w) 3 fa fd ["_law_script"] (LawSp (K w.params))) :
    PySem.W.WalkO q loose XP YP l.row.toRowW d [] (fun f vs => PySem.call f vs) :=
  L2.walk_of (n := 63) (k := 3) (x := "_law_script") (CX := fun w => L2.CX l.prog w) (sp := fun w => LawSp (K w.params)) hn (by decide) hdf ⟨rfl, by decide, by decide⟩ hY F (fun _ H a ns hl _ hS => law_start hl hS) fun _ _ _ _ _ z => by
    obtain ⟨_, _, _, _, _, _, _, _, _, _, _, _, z⟩ := z
    exact z.elim
end Y
open PySem PySem.W PyProof.Rows
set_option maxRecDepth 100000 in
set_option maxHeartbeats 0 in
theorem PySem.Challenge.cw_sharewheel_k13_what_came_holds : PySem.Challenge.rw_sharewheel_k13_what_came.Holds := by
  w_on; o_law; k_head; (case hw => w_witness2)
  k_fill
  refine Y.walk (l := PySem.Challenge.rw_sharewheel_k13_what_came) rfl rfl (fun w h Y => PySem.W.kIn_of Y) ?F
  case F =>
    intro w mg fa h KX G hmg
    refine' Y.all_mk KX G hmg ?z_bool ?z_int ?z_isinstance ?z_len ?z_list ?z_max ?z_sum ?a_came ?l_came ?c_came ?k_came ?a__law_cell_at ?l__law_cell_at ?c__law_cell_at ?k__law_cell_at ?a__law_mix ?l__law_mix ?c__law_mix ?k__law_mix ?a__law_row ?l__law_row ?c__law_row ?k__law_row ?a__law_time ?l__law_time ?c__law_time ?k__law_time ?a__law_due ?l__law_due ?c__law_due ?k__law_due ?a__law_whole ?l__law_whole ?c__law_whole ?k__law_whole ?a_law ?l_law ?c_law ?k_law
    (case z_bool => k_is)
    (case z_int => k_is)
    (case z_isinstance => k_is)
    (case z_len => k_is)
    (case z_list => k_is)
    (case z_max => k_is)
    (case z_sum => k_is)
    (case a_came => k_is)
    (case l_came => k_is)
    (case c_came => k_is)
    (case k_came => k_is)
    (case a__law_cell_at => k_is)
    (case l__law_cell_at => k_is)
    (case c__law_cell_at => k_is)
    (case k__law_cell_at => k_is)
    (case a__law_mix => k_is)
    (case l__law_mix => k_is)
    (case c__law_mix => k_is)
    (case k__law_mix => k_is)
    (case a__law_row => k_is)
    (case l__law_row => k_is)
    (case c__law_row => k_is)
    (case k__law_row => k_is)
    (case a__law_time => k_is)
    (case l__law_time => k_is)
    (case c__law_time => k_is)
    (case k__law_time => k_is)
    (case a__law_due => k_is)
    (case l__law_due => k_is)
    (case c__law_due => k_is)
    (case k__law_due => k_is)
    (case a__law_whole => k_is)
    (case l__law_whole => k_is)
    (case c__law_whole => k_is)
    (case k__law_whole => k_is)
    (case a_law => k_is)
    (case l_law => k_is)
    (case c_law => k_is)
    (case k_law => k_is)
#print axioms PySem.Challenge.cw_sharewheel_k13_what_came_holds


