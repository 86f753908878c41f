import PyProof.Rows.All
import Wide.All
import OpenK.AllK
import Wide.FinOn
import HandS.ForMost
import HandS.Wide
import HandS.ForExc
import HandS.IsInst
import HandS.Exc
import HandS.WordsExc
import HandS.TryOnly
import HandS.Codes
import HandS.ExcOwn
import HandS.WideBits
import PySem.Challenge.RW_sharewheel_k05_whole_neighbours
set_option Elab.async false
set_option linter.all false
set_option maxRecDepth 100000
set_option maxHeartbeats 4000000
namespace Y
open PySem L2

/-! ## assertions: what a value is, over what never changes -/
structure As where
  p : Hp → V → Prop
  mono : ∀ {F F' : Hp} {v : V}, Same F F' → p F v → p F' v
def Cst (w : V) : As := ⟨fun _ v => v = w, fun _ h => h⟩
abbrev I (n : Int) : As := Cst (.int n)
abbrev B (b : Bool) : As := Cst (.bl b)
abbrev Rf (a : Addr) : As := Cst (.ref a)
abbrev Nn : As := Cst .non
abbrev S (x : Str) : As := Cst (.str x)
def Any : As := ⟨fun _ _ => True, fun _ h => h⟩
def All (F : Hp) : List As → List V → Prop
  | [], [] => True
  | R :: Rs, x :: xs => R.p F x ∧ All F Rs xs
  | _, _ => False
theorem All.mono {F F' : Hp} (s : Same F F') : ∀ {Rs : List As} {xs : List V}, All F Rs xs → All F' Rs xs
  | [], [], _ => trivial
  | R :: Rs, x :: xs, h => ⟨R.mono s h.1, All.mono s h.2⟩
  | [], _ :: _, h => h.elim
  | _ :: _, [], h => h.elim
theorem All.length {F : Hp} : ∀ {Rs : List As} {xs : List V}, All F Rs xs → xs.length = Rs.length
  | [], [], _ => rfl
  | R :: Rs, x :: xs, h => congrArg (· + 1) (All.length h.2)
  | [], _ :: _, h => h.elim
  | _ :: _, [], h => h.elim
theorem All.get {F : Hp} : ∀ {Rs : List As} {xs : List V} {i : Nat} {R : As}, All F Rs xs → Rs[i]? = some R → ∃ x, xs[i]? = some x ∧ R.p F x
  | [], [], i, R, _, e => by simp at e
  | R :: Rs, x :: xs, 0, R', h, e => by
    have e' : R = R' := Option.some.inj e
    subst e'; exact ⟨x, rfl, h.1⟩
  | R :: Rs, x :: xs, i + 1, R', h, e => by
    obtain ⟨y, e1, e2⟩ := All.get (i := i) h.2 (by simpa using e)
    exact ⟨y, by simpa using e1, e2⟩
  | [], _ :: _, _, _, h, _ => h.elim
  | _ :: _, [], _, _, h, _ => h.elim
theorem All.app {F : Hp} : ∀ {Rs Ss : List As} {xs ys : List V}, All F Rs xs → All F Ss ys → All F (Rs ++ Ss) (xs ++ ys)
  | [], _, [], _, _, h => h
  | R :: Rs, _, x :: xs, _, h, h' => ⟨h.1, All.app h.2 h'⟩
  | [], _, _ :: _, _, h, _ => h.elim
  | _ :: _, _, [], _, h, _ => h.elim
theorem All.of_get {F : Hp} : ∀ {Rs : List As} {xs : List V}, xs.length = Rs.length → (∀ (i : Nat) (R : As) (x : V), Rs[i]? = some R → xs[i]? = some x → R.p F x) → All F Rs xs
  | [], [], _, _ => trivial
  | R :: Rs, x :: xs, e, h => ⟨h 0 R x rfl rfl, All.of_get (by simpa using e) fun i R' x' a b => h (i + 1) R' x' (by simpa using a) (by simpa using b)⟩
  | [], _ :: _, e, _ => by simp at e
  | _ :: _, [], e, _ => by simp at e
theorem same_seqT {K : PySem.W.Frag} {F F' : Hp} {a : Addr} {xs : List V} (e : Same F F') (h : SqT K F a xs) : SqT K F' a xs := by
  rcases h with (h | ⟨o, h⟩) | h
  · exact .inl (.inl (e _ _ h))
  · exact .inl (.inr ⟨o, e _ _ h⟩)
  · exact .inr h
/-- a tuple, a list that stands still -/
def Tp (K : PySem.W.Frag) (Rs : List As) : As := ⟨fun F v => ∃ a xs, v = .ref a ∧ SqT K F a xs ∧ All F Rs xs, fun s h => by
  obtain ⟨a, xs, e, h1, h2⟩ := h; exact ⟨a, xs, e, same_seqT s h1, h2.mono s⟩⟩
def Ls (K : PySem.W.Frag) (Rs : List As) : As := ⟨fun F v => ∃ a xs, v = .ref a ∧ SqL K F a xs ∧ All F Rs xs, fun s h => by
  obtain ⟨a, xs, e, h1, h2⟩ := h; exact ⟨a, xs, e, s.seq h1, h2.mono s⟩⟩
/-- some value of a family -/
def Xs {β : Type} (P : β → Prop) (R : β → As) : As := ⟨fun F v => ∃ b, P b ∧ (R b).p F v, fun s h => by
  obtain ⟨b, h1, h2⟩ := h; exact ⟨b, h1, (R b).mono s h2⟩⟩

/-! ## the slots -/
abbrev Gm := List (Option As)
def Sat (F : Hp) : Gm → St → Prop
  | [], [] => True
  | none :: Γ, _ :: σ => Sat F Γ σ
  | some R :: Γ, s :: σ => (∃ v, s = some v ∧ R.p F v) ∧ Sat F Γ σ
  | _, _ => False
theorem Sat.mono {F F' : Hp} (s : Same F F') : ∀ {Γ : Gm} {σ : St}, Sat F Γ σ → Sat F' Γ σ
  | [], [], _ => trivial
  | none :: Γ, _ :: σ, h => Sat.mono (Γ := Γ) s h
  | some R :: Γ, _ :: σ, h => by
    obtain ⟨⟨v, e, q⟩, t⟩ := h
    exact ⟨⟨v, e, R.mono s q⟩, Sat.mono s t⟩
  | [], _ :: _, h => h.elim
  | none :: _, [], h => h.elim
  | some _ :: _, [], h => h.elim
theorem Sat.get {F : Hp} : ∀ {Γ : Gm} {σ : St} {i : Nat} {R : As}, Sat F Γ σ → Γ[i]? = some (some R) → ∃ v, σ[i]? = some (some v) ∧ R.p F v
  | [], [], i, R, _, e => by simp at e
  | none :: Γ, _ :: σ, 0, R, h, e => by simp at e
  | none :: Γ, s :: σ, i + 1, R, h, e => by
    obtain ⟨v, a, b⟩ := Sat.get (Γ := Γ) (σ := σ) (i := i) (R := R) h (by simpa using e)
    exact ⟨v, by simpa using a, b⟩
  | some R :: Γ, s :: σ, 0, R', h, e => by
    obtain ⟨⟨v, e1, q⟩, t⟩ := h
    have e' : R = R' := by simpa using e
    subst e'; subst e1; exact ⟨v, rfl, q⟩
  | some R :: Γ, s :: σ, i + 1, R', h, e => by
    obtain ⟨_, t⟩ := h
    obtain ⟨v, a, b⟩ := Sat.get (Γ := Γ) (σ := σ) (i := i) (R := R') t (by simpa using e)
    exact ⟨v, by simpa using a, b⟩
  | [], _ :: _, _, _, h, _ => h.elim
  | none :: _, [], _, _, h, _ => h.elim
  | some _ :: _, [], _, _, h, _ => h.elim
theorem Sat.set {F : Hp} {R : As} {v : V} (q : R.p F v) : ∀ {Γ : Gm} {σ : St} (i : Nat), Sat F Γ σ → Sat F (Γ.set i (some R)) (σ.set i (some v))
  | [], [], _, _ => trivial
  | none :: Γ, _ :: σ, 0, h => ⟨⟨v, rfl, q⟩, h⟩
  | none :: Γ, s :: σ, i + 1, h => Sat.set q (Γ := Γ) (σ := σ) i h
  | some _ :: Γ, s :: σ, 0, h => ⟨⟨v, rfl, q⟩, h.2⟩
  | some _ :: Γ, s :: σ, i + 1, h => ⟨h.1, Sat.set q (Γ := Γ) (σ := σ) i h.2⟩
  | [], _ :: _, _, h => h.elim
  | none :: _, [], _, h => h.elim
  | some _ :: _, [], _, h => h.elim
theorem Sat.unset {F : Hp} {s : Option V} : ∀ {Γ : Gm} {σ : St} (i : Nat), Sat F Γ σ → Sat F (Γ.set i none) (σ.set i s)
  | [], [], _, _ => trivial
  | none :: Γ, _ :: σ, 0, h => h
  | none :: Γ, s :: σ, i + 1, h => Sat.unset (Γ := Γ) (σ := σ) i h
  | some _ :: Γ, s :: σ, 0, h => h.2
  | some _ :: Γ, s :: σ, i + 1, h => ⟨h.1, Sat.unset (Γ := Γ) (σ := σ) i h.2⟩
  | [], _ :: _, _, h => h.elim
  | none :: _, [], _, h => h.elim
  | some _ :: _, [], _, h => h.elim
/-- fewer things known of the slots -/
inductive Wk : Gm → Gm → Prop
  | nil : Wk [] []
  | eq {R : Option As} {Γ Γ' : Gm} : Wk Γ Γ' → Wk (R :: Γ) (R :: Γ')
  | no {R : Option As} {Γ Γ' : Gm} : Wk Γ Γ' → Wk (R :: Γ) (none :: Γ')
theorem Sat.wk {F : Hp} : ∀ {Γ Γ' : Gm} {σ : St}, Wk Γ Γ' → Sat F Γ σ → Sat F Γ' σ
  | _, _, σ, .nil, h => h
  | none :: Γ, _, s :: σ, .eq w, h => Sat.wk (σ := σ) w h
  | some R :: Γ, _, s :: σ, .eq w, h => ⟨h.1, Sat.wk w h.2⟩
  | none :: Γ, _, s :: σ, .no w, h => Sat.wk (σ := σ) w h
  | some R :: Γ, _, s :: σ, .no w, h => Sat.wk (σ := σ) w h.2
  | none :: _, _, [], _, h => h.elim
  | some _ :: _, _, [], _, h => h.elim
theorem Wk.refl : ∀ Γ : Gm, Wk Γ Γ
  | [] => .nil
  | _ :: Γ => .eq (Wk.refl Γ)
theorem sat_start {F : Hp} : ∀ {Rs : List As} {vs : List V} (n : Nat), All F Rs vs → Sat F (Rs.map some ++ List.replicate n none) (vs.map some ++ List.replicate n none)
  | [], [], n, _ => by
    show Sat F (List.replicate n none) (List.replicate n none)
    induction n with
    | zero => trivial
    | succ n ih => exact ih
  | R :: Rs, x :: xs, n, h => ⟨⟨x, rfl, h.1⟩, sat_start n h.2⟩
  | [], _ :: _, _, h => h.elim
  | _ :: _, [], _, h => h.elim

/-! ## what is owned -/
structure OA where
  p : Hp → HO → Prop
  mono : ∀ {F F' : Hp} {o : HO}, Same F F' → p F o → p F' o
def oL (Rs : List As) : OA := ⟨fun F o => ∃ xs, o = .lst xs ∧ All F Rs xs, fun s h => by
  obtain ⟨xs, e, q⟩ := h; exact ⟨xs, e, q.mono s⟩⟩
abbrev Om := List (Addr × OA)
def Own (F H : Hp) (Ω : Om) : Prop := ∀ x, x ∈ Ω → F x.1 = none ∧ ∃ o, H x.1 = some o ∧ x.2.p F o

structure Ext (foot : List Addr) (F0 H0 F H : Hp) : Prop where
  fe : Same F0 F
  fr : ∀ a o, H0 a = some o → a ∉ foot → H a = some o
  dm : ∀ a, H a = none → H0 a = none
  nw : ∀ a, H0 a ≠ none → F0 a = none → F a = none
theorem Ext.refl (ft : List Addr) (F H : Hp) : Ext ft F H F H := ⟨Same.refl F, fun _ _ h _ => h, fun _ h => h, fun _ _ h => h⟩
theorem Ext.trans {ft : List Addr} {F0 H0 F1 H1 F2 H2 : Hp} (a : Ext ft F0 H0 F1 H1) (b : Ext ft F1 H1 F2 H2) : Ext ft F0 H0 F2 H2 :=
  ⟨a.fe.trans b.fe, fun x o h n => b.fr x o (a.fr x o h n) n, fun x h => a.dm x (b.dm x h), fun x h f => b.nw x (fun z => h (a.dm x z)) (a.nw x h f)⟩
theorem Ext.wid {ft ft' : List Addr} {F0 H0 F1 H1 : Hp} (a : Ext ft F0 H0 F1 H1) (h : ∀ x, x ∈ ft → x ∈ ft') : Ext ft' F0 H0 F1 H1 :=
  ⟨a.fe, fun x o q n => a.fr x o q fun z => n (h x z), a.dm, a.nw⟩
/-- a step that touches only what was not there at the start, or the footprint -/
theorem Ext.transL {ft ft' : List Addr} {F0 H0 F1 H1 F2 H2 : Hp} (a : Ext ft F0 H0 F1 H1) (b : Ext ft' F1 H1 F2 H2) (h : ∀ x, x ∈ ft' → x ∈ ft ∨ H0 x = none) : Ext ft F0 H0 F2 H2 :=
  ⟨a.fe.trans b.fe, fun x o q n => b.fr x o (a.fr x o q n) fun z => (h x z).elim n (fun e => by rw [e] at q; cases q),
    fun x h => a.dm x (b.dm x h), fun x h f => b.nw x (fun z => h (a.dm x z)) (a.nw x h f)⟩
structure Bs where
  F : Hp
  H : Hp
  ft : List Addr
  G : Hp
def Bs.pin (Z : Bs) (G : Hp) : Bs := ⟨Z.F, Z.H, Z.ft, G⟩
structure Ctx (Z : Bs) (F H : Hp) (σ : St) (Γ : Gm) (Ω : Om) : Prop where
  sat : Sat F Γ σ
  sub : Same F H
  own : Own F H Ω
  nd : (Ω.map (·.1)).Nodup
  loc : ∀ x, x ∈ Ω → x.1 ∈ Z.ft ∨ Z.H x.1 = none
  ext : Ext Z.ft Z.F Z.H F H
  pin : Same Z.G F
section
variable {Z : Bs} {F H F' H' : Hp} {σ σ' : St} {Γ Γ' : Gm} {Ω Ω' : Om} {K : PySem.W.Frag}
theorem Own.ext {ft : List Addr} (e : Ext ft F H F' H') (h : Own F H Ω) (d : ∀ x, x ∈ Ω → x.1 ∉ ft) : Own F' H' Ω := fun x hx => by
  obtain ⟨h1, o, h2, h3⟩ := h x hx
  exact ⟨e.nw _ (by rw [h2]; exact fun z => by cases z) h1, o, e.fr _ _ h2 (d x hx), x.2.mono e.fe h3⟩
theorem Ctx.step (c : Ctx Z F H σ Γ Ω) (e : Ext [] F H F' H') (s : Same F' H') : Ctx Z F' H' σ Γ Ω :=
  ⟨c.sat.mono e.fe, s, c.own.ext e (fun _ _ => List.not_mem_nil), c.nd, c.loc, c.ext.trans (e.wid fun _ h => absurd h List.not_mem_nil), c.pin.trans e.fe⟩
theorem Ctx.wk (c : Ctx Z F H σ Γ Ω) (w : Wk Γ Γ') : Ctx Z F H σ Γ' Ω := ⟨c.sat.wk w, c.sub, c.own, c.nd, c.loc, c.ext, c.pin⟩
theorem Ctx.set (c : Ctx Z F H σ Γ Ω) {R : As} {v : V} (i : Nat) (q : R.p F v) : Ctx Z F H (σ.set i (some v)) (Γ.set i (some R)) Ω := ⟨c.sat.set q i, c.sub, c.own, c.nd, c.loc, c.ext, c.pin⟩
theorem Ctx.topin (c : Ctx Z F H σ Γ Ω) {G : Hp} (h : Same G F) : Ctx (Z.pin G) F H σ Γ Ω := ⟨c.sat, c.sub, c.own, c.nd, c.loc, c.ext, h⟩
theorem Ctx.unpin {G : Hp} (c : Ctx (Z.pin G) F H σ Γ Ω) (h : Same Z.G G) : Ctx Z F H σ Γ Ω := ⟨c.sat, c.sub, c.own, c.nd, c.loc, c.ext, h.trans c.pin⟩
/-- a new thing that never changes -/
theorem Ext.new {p : Addr} {o : HO} (s : Same F H) (h : H p = none) : Ext [] F H (upd F p o) (upd H p o) ∧ Same (upd F p o) (upd H p o) := by
  have hf : F p = none := s.free h
  refine ⟨⟨fun a u e => ?_, fun a u e _ => ?_, fun a e => ?_, fun a h1 h2 => ?_⟩, fun a u e => ?_⟩
  · rw [upd_ne (ne_of_none e hf)]; exact e
  · rw [upd_ne (ne_of_none e h)]; exact e
  · by_cases q : a = p
    · subst q; exact h
    · rw [upd_ne q] at e; exact e
  · have q : a ≠ p := fun z => h1 (by rw [z]; exact h)
    rw [upd_ne q]; exact h2
  · by_cases q : a = p
    · subst q; rw [upd_same] at e ⊢; exact e
    · rw [upd_ne q] at e ⊢; exact s a u e
/-- a new thing that is not frozen -/
theorem Ext.newH {p : Addr} {o : HO} (h : H p = none) : Ext [] F H F (upd H p o) := by
  refine ⟨Same.refl F, fun a u e _ => ?_, fun a e => ?_, fun a h1 h2 => h2⟩
  · rw [upd_ne (ne_of_none e h)]; exact e
  · by_cases q : a = p
    · subst q; exact h
    · rw [upd_ne q] at e; exact e

/-! ## judgements -/
def Ev (Γ : Gm) (Ω : Om) (te : TE) (R : As) : Prop := ∀ (Z : Bs) (F H : Hp) (σ : St), Ctx Z F H σ Γ Ω → ∀ Q : VK, (∀ v F' H', Ctx Z F' H' σ Γ Ω → Same F F' → R.p F' v → Q v H') → te σ H Q
def EvT (Γ : Gm) (Ω : Om) (tt : TT) (b : Bool) : Prop := ∀ (Z : Bs) (F H : Hp) (σ : St), Ctx Z F H σ Γ Ω → ∀ Q : Bool → Hp → Prop, (∀ F' H', Ctx Z F' H' σ Γ Ω → Same F F' → Q b H') → tt σ H Q
def EvA (Γ : Gm) (Ω : Om) (ta : TA) (Rs : List As) : Prop := ∀ (Z : Bs) (F H : Hp) (σ : St), Ctx Z F H σ Γ Ω → ∀ Q : List V → Hp → Prop, (∀ vs F' H', Ctx Z F' H' σ Γ Ω → Same F F' → All F' Rs vs → Q vs H') → ta σ H Q
/-- by values: an operation of two, of one, a call -/
def RV (r : R2) (Rx Ry R : As) : Prop := ∀ (F H : Hp) (x y : V), Same F H → Rx.p F x → Ry.p F y → ∀ Q : VK, (∀ v F' H', Ext [] F H F' H' → Same F' H' → R.p F' v → Q v H') → r x y H Q
def RC (r : List V → Hp → VK → Prop) (Rs : List As) (R : As) : Prop := ∀ (F H : Hp) (vs : List V), Same F H → All F Rs vs → ∀ Q : VK, (∀ v F' H', Ext [] F H F' H' → Same F' H' → R.p F' v → Q v H') → r vs H Q

variable {te ta tb : TE} {tt tu : TT} {R Rx Ry : As}
theorem ev_var {i : Nat} (h : Γ[i]? = some (some R)) : Ev Γ Ω (tVar i) R := fun Z F H σ c Q q => by
  obtain ⟨v, e, r⟩ := c.sat.get h
  exact ⟨v, e, q v F H c (Same.refl F) r⟩
theorem ev_c {v : V} : Ev Γ Ω (tC v) (Cst v) := fun Z F H σ c Q q => q v F H c (Same.refl F) rfl
theorem ev_op {r : R2} (ha : Ev Γ Ω ta Rx) (hb : Ev Γ Ω tb Ry) (hr : RV r Rx Ry R) : Ev Γ Ω (tOp r ta tb) R := fun Z F H σ c Q q =>
  ha Z F H σ c _ fun x F1 H1 c1 s1 rx => hb Z F1 H1 σ c1 _ fun y F2 H2 c2 s2 ry =>
    hr F2 H2 x y c2.sub (Rx.mono s2 rx) ry Q fun v F3 H3 e3 s3 rv => q v F3 H3 (c2.step e3 s3) (s1.trans (s2.trans e3.fe)) rv
theorem ev_un {r : V → Hp → VK → Prop} (ha : Ev Γ Ω ta Rx) (hr : ∀ (F H : Hp) (x : V), Same F H → Rx.p F x → ∀ Q : VK, (∀ v, R.p F v → Q v H) → r x H Q) : Ev Γ Ω (tUn r ta) R := fun Z F H σ c Q q =>
  ha Z F H σ c _ fun x F1 H1 c1 s1 rx => hr F1 H1 x c1.sub rx Q fun v rv => q v F1 H1 c1 s1 rv
theorem ev_neg {n : Int} (ha : Ev Γ Ω ta (I n)) : Ev Γ Ω (tUn (rU fun i => .int (-i)) ta) (I (-n)) := ev_un ha fun F H x _ e Q q => ⟨n, e, q _ rfl⟩
theorem rv_I0 {g : Int → Int → V} {i j : Int} : RV (rI0 g) (I i) (I j) (Cst (g i j)) := fun F H x y s e e' Q q => ⟨i, j, e, e', q _ F H (Ext.refl _ _ _) s rfl⟩
theorem rv_I {C : Int → Int → Prop} {g : Int → Int → V} {i j : Int} (h : C i j) : RV (rI C g) (I i) (I j) (Cst (g i j)) := fun F H x y s e e' Q q => ⟨i, j, e, e', h, q _ F H (Ext.refl _ _ _) s rfl⟩
theorem ev_I0 {g : Int → Int → V} {i j : Int} (ha : Ev Γ Ω ta (I i)) (hb : Ev Γ Ω tb (I j)) : Ev Γ Ω (tOp (rI0 g) ta tb) (Cst (g i j)) := ev_op ha hb rv_I0
theorem ev_I {C : Int → Int → Prop} {g : Int → Int → V} {i j : Int} (ha : Ev Γ Ω ta (I i)) (hb : Ev Γ Ω tb (I j)) (h : C i j) : Ev Γ Ω (tOp (rI C g) ta tb) (Cst (g i j)) := ev_op ha hb (rv_I h)
theorem ev_eqI {i j : Int} (ha : Ev Γ Ω ta (I i)) (hb : Ev Γ Ω tb (I j)) : Ev Γ Ω (tOp rEq ta tb) (B (decide (i = j))) := ev_op ha hb fun F H x y s e e' Q q => by
  cases e; cases e'
  refine ⟨rfl, ?_⟩
  have z : decide (V.int i = V.int j) = decide (i = j) := by simp
  rw [z]
  exact q _ F H (Ext.refl _ _ _) s rfl
theorem ev_neI {i j : Int} (ha : Ev Γ Ω ta (I i)) (hb : Ev Γ Ω tb (I j)) : Ev Γ Ω (tOp rNe ta tb) (B (!decide (i = j))) := ev_op ha hb fun F H x y s e e' Q q => by
  cases e; cases e'
  refine ⟨rfl, ?_⟩
  have z : decide (V.int i = V.int j) = decide (i = j) := by simp
  rw [z]
  exact q _ F H (Ext.refl _ _ _) s rfl
theorem ev_cast {R' : As} (h : Ev Γ Ω te R) (e : ∀ F v, R.p F v → R'.p F v) : Ev Γ Ω te R' := fun Z F H σ c Q q => h Z F H σ c Q fun v F1 H1 c1 s1 r => q v F1 H1 c1 s1 (e _ _ r)
theorem ev_is {R' : As} (h : Ev Γ Ω te R) (e : R = R') : Ev Γ Ω te R' := e ▸ h
/-! places of lists and tuples -/
theorem atI_all {F : Hp} {Rs : List As} {xs : List V} {i : Int} (h : All F Rs xs) (e : atI Rs i = some R) : ∃ x, atI xs i = some x ∧ R.p F x := by
  unfold atI at e ⊢
  have hl := h.length
  rw [hl]
  cases z : ixN Rs.length i with
  | none => rw [z] at e; cases e
  | some j => rw [z] at e; exact h.get e
theorem ev_ixT {Rs : List As} {i : Int} (ha : Ev Γ Ω ta (Tp K Rs)) (hb : Ev Γ Ω tb (I i)) (h : atI Rs i = some R) : Ev Γ Ω (tOp (rIxT K) ta tb) R := ev_op ha hb fun F H x y s rx e Q q => by
  obtain ⟨a, xs, ea, hs, hl⟩ := rx
  obtain ⟨v, e1, r⟩ := atI_all hl h
  exact ⟨a, xs, i, v, ea, e, same_seqT s hs, e1, q v F H (Ext.refl _ _ _) s r⟩
theorem ev_ixL {Rs : List As} {i : Int} (ha : Ev Γ Ω ta (Ls K Rs)) (hb : Ev Γ Ω tb (I i)) (h : atI Rs i = some R) : Ev Γ Ω (tOp (rIxL K) ta tb) R := ev_op ha hb fun F H x y s rx e Q q => by
  obtain ⟨a, xs, ea, hs, hl⟩ := rx
  obtain ⟨v, e1, r⟩ := atI_all hl h
  exact ⟨a, xs, i, v, ea, e, s.seq hs, e1, q v F H (Ext.refl _ _ _) s r⟩
/-! arguments, displays, calls of built-ins -/
theorem ea_nil : EvA Γ Ω tNil [] := fun Z F H σ c Q q => q [] F H c (Same.refl F) trivial
theorem ea_cons {tr : TA} {Rs : List As} (h : Ev Γ Ω te R) (hr : EvA Γ Ω tr Rs) : EvA Γ Ω (tCons te tr) (R :: Rs) := fun Z F H σ c Q q =>
  h Z F H σ c _ fun v F1 H1 c1 s1 r => hr Z F1 H1 σ c1 _ fun vs F2 H2 c2 s2 rs => q (v :: vs) F2 H2 c2 (s1.trans s2) ⟨R.mono s2 r, rs⟩
theorem ev_tup {ta : TA} {Rs : List As} (h : EvA Γ Ω ta Rs) (hl : Rs.length ≤ 1000 := by decide) : Ev Γ Ω (tTup ta) (Tp K Rs) := fun Z F H σ c Q q =>
  h Z F H σ c _ fun vs F1 H1 c1 s1 rs => ⟨by rw [rs.length]; exact Nat.le_of_lt (small1000 hl), fun p hp => by
    obtain ⟨e, s⟩ := Ext.new (o := .tup vs) c1.sub hp
    exact q (.ref p) _ _ (c1.step e s) (s1.trans e.fe) ⟨p, vs, rfl, SqT.of upd_same, rs.mono e.fe⟩⟩
theorem ev_lst {ta : TA} {Rs : List As} (h : EvA Γ Ω ta Rs) (hl : Rs.length ≤ 1000 := by decide) : Ev Γ Ω (tLst ta) (Ls K Rs) := fun Z F H σ c Q q =>
  h Z F H σ c _ fun vs F1 H1 c1 s1 rs => ⟨by rw [rs.length]; exact Nat.le_of_lt (small1000 hl), fun p hp => by
    obtain ⟨e, s⟩ := Ext.new (o := .lst vs) c1.sub hp
    exact q (.ref p) _ _ (c1.step e s) (s1.trans e.fe) ⟨p, vs, rfl, SqL.of upd_same, rs.mono e.fe⟩⟩
theorem ev_cb {r : List V → Hp → VK → Prop} {ta : TA} {Rs : List As} (h : EvA Γ Ω ta Rs) (hr : RC r Rs R) : Ev Γ Ω (tCB r ta) R := fun Z F H σ c Q q =>
  h Z F H σ c _ fun vs F1 H1 c1 s1 rs => hr F1 H1 vs c1.sub rs Q fun v F2 H2 e2 s2 r => q v F2 H2 (c1.step e2 s2) (s1.trans e2.fe) r
/-! tests -/
theorem et_test {b : Bool} (h : Ev Γ Ω te (B b)) : EvT Γ Ω (tTest te) b := fun Z F H σ c Q q => h Z F H σ c _ fun v F1 H1 c1 s1 r => ⟨b, r, q F1 H1 c1 s1⟩
theorem et_B {b : Bool} (h : Ev Γ Ω te (B b)) : EvT Γ Ω (tB te) b := fun Z F H σ c Q q => h Z F H σ c _ fun v F1 H1 c1 s1 r => ⟨b, r, q F1 H1 c1 s1⟩
theorem et_and {a b : Bool} (h1 : EvT Γ Ω tt a) (h2 : a = true → EvT Γ Ω tu b) : EvT Γ Ω (tAnd tt tu) (a && b) := fun Z F H σ c Q q => h1 Z F H σ c _ fun F1 H1 c1 s1 => by
  cases a with
  | true => exact iteT (h2 rfl Z F1 H1 σ c1 Q fun F2 H2 c2 s2 => q F2 H2 c2 (s1.trans s2))
  | false => exact iteF (q F1 H1 c1 s1)
theorem et_or {a b : Bool} (h1 : EvT Γ Ω tt a) (h2 : a = false → EvT Γ Ω tu b) : EvT Γ Ω (tOr tt tu) (a || b) := fun Z F H σ c Q q => h1 Z F H σ c _ fun F1 H1 c1 s1 => by
  cases a with
  | true => exact iteT (q F1 H1 c1 s1)
  | false => exact iteF (h2 rfl Z F1 H1 σ c1 Q fun F2 H2 c2 s2 => q F2 H2 c2 (s1.trans s2))
theorem et_not {a : Bool} (h1 : EvT Γ Ω tt a) : EvT Γ Ω (tNot tt) (!a) := fun Z F H σ c Q q => h1 Z F H σ c _ fun F1 H1 c1 s1 => q F1 H1 c1 s1
theorem et_is {a b : Bool} (h : EvT Γ Ω tt a) (e : a = b) : EvT Γ Ω tt b := e ▸ h
theorem ev_andV {a b : Bool} (h1 : Ev Γ Ω ta (B a)) (h2 : a = true → Ev Γ Ω tb (B b)) : Ev Γ Ω (tAndV ta tb) (B (a && b)) := fun Z F H σ c Q q => h1 Z F H σ c _ fun v F1 H1 c1 s1 r => ⟨a, r, by
  cases a with
  | true => exact iteT (h2 rfl Z F1 H1 σ c1 Q fun v F2 H2 c2 s2 r2 => q v F2 H2 c2 (s1.trans s2) r2)
  | false => exact iteF (q _ F1 H1 c1 s1 rfl)⟩
theorem ev_orV {a b : Bool} (h1 : Ev Γ Ω ta (B a)) (h2 : a = false → Ev Γ Ω tb (B b)) : Ev Γ Ω (tOrV ta tb) (B (a || b)) := fun Z F H σ c Q q => h1 Z F H σ c _ fun v F1 H1 c1 s1 r => ⟨a, r, by
  cases a with
  | true => exact iteT (q _ F1 H1 c1 s1 rfl)
  | false => exact iteF (h2 rfl Z F1 H1 σ c1 Q fun v F2 H2 c2 s2 r2 => q v F2 H2 c2 (s1.trans s2) r2)⟩
theorem ev_notV {a : Bool} (h1 : Ev Γ Ω ta (B a)) : Ev Γ Ω (tNotV ta) (B (!a)) := fun Z F H σ c Q q => h1 Z F H σ c _ fun v F1 H1 c1 s1 r => ⟨a, r, q _ F1 H1 c1 s1 rfl⟩
theorem ev_if {b : Bool} (h : EvT Γ Ω tt b) (h1 : b = true → Ev Γ Ω ta R) (h2 : b = false → Ev Γ Ω tb R) : Ev Γ Ω (tIf tt ta tb) R := fun Z F H σ c Q q => h Z F H σ c _ fun F1 H1 c1 s1 => by
  cases b with
  | true => exact iteT (h1 rfl Z F1 H1 σ c1 Q fun v F2 H2 c2 s2 r2 => q v F2 H2 c2 (s1.trans s2) r2)
  | false => exact iteF (h2 rfl Z F1 H1 σ c1 Q fun v F2 H2 c2 s2 r2 => q v F2 H2 c2 (s1.trans s2) r2)

/-! ## contracts of defs that change nothing -/
def CtF {α : Type} (args : α → List As) (pre : α → Prop) (res : α → As) : Sp := fun vs H Q _ =>
  ∃ a F, Same F H ∧ All F (args a) vs ∧ pre a ∧ ∀ v F' H', Ext [] F H F' H' → Same F' H' → (res a).p F' v → Q v H'
theorem CtF.len {α : Type} {args : α → List As} {pre : α → Prop} {res : α → As} {n : Nat} (h : ∀ a, (args a).length = n) : ∀ vs H Q E, CtF args pre res vs H Q E → vs.length = n := by
  rintro vs H Q E ⟨a, F, _, ha, _⟩
  rw [ha.length, h]
theorem ev_call {α : Type} {args : α → List As} {pre : α → Prop} {res : α → As} {E : XK} {ta : TA} (a : α) (h : EvA Γ Ω ta (args a)) (hp : pre a) : Ev Γ Ω (tCall (CtF args pre res) [] E ta) (res a) := fun Z F H σ c Q q =>
  h Z F H σ c _ fun vs F1 H1 c1 s1 rs => ⟨a, F1, c1.sub, by rw [List.append_nil]; exact rs, hp, fun v F2 H2 e2 s2 r => q v F2 H2 (c1.step e2 s2) (s1.trans e2.fe) r⟩
theorem ctx_start {Rs : List As} {vs : List V} {N : List Str} (s : Same F H) (h : All F Rs vs) : Ctx ⟨F, H, [], F⟩ F H (L2.start N vs) (Rs.map some ++ List.replicate (N.length - Rs.length) none) [] := by
  refine ⟨?_, s, fun _ h => absurd h List.not_mem_nil, List.nodup_nil, fun _ h => absurd h List.not_mem_nil, Ext.refl _ _ _, Same.refl _⟩
  unfold L2.start
  rw [h.length]
  exact sat_start _ h

/-! ## targets -/
def Gt (Γ : Gm) (R : As) (g : TG) (Γ' : Gm) (ws : List Nat) : Prop := ∀ (Z : Bs) (F H : Hp) (σ : St) (v : V) (Ω : Om), Ctx Z F H σ Γ Ω → R.p F v → ∀ Q : St → Hp → Prop,
  (∀ σ', Ctx Z F H σ' Γ' Ω → (∀ vs, (∀ i, i ∈ ws → i ∈ vs) → wipe σ' vs = wipe σ vs) → Q σ' H) → g v σ H Q
def Gts (Γ : Gm) (Rs : List As) (g : TGs) (Γ' : Gm) (ws : List Nat) : Prop := ∀ (Z : Bs) (F H : Hp) (σ : St) (vs : List V) (Ω : Om), Ctx Z F H σ Γ Ω → All F Rs vs → ∀ Q : St → Hp → Prop,
  (∀ σ', Ctx Z F H σ' Γ' Ω → (∀ us, (∀ i, i ∈ ws → i ∈ us) → wipe σ' us = wipe σ us) → Q σ' H) → g vs σ H Q
theorem wipe_set {σ : St} {i : Nat} {s : Option V} : ∀ {vs : List Nat}, i ∈ vs → wipe (σ.set i s) vs = wipe σ vs
  | [], h => absurd h List.not_mem_nil
  | v :: vs, h => by
    show (wipe (σ.set i s) vs).set v none = (wipe σ vs).set v none
    by_cases hi : i ∈ vs
    · rw [wipe_set hi]
    · have e : i = v := by
        rcases List.mem_cons.mp h with q | q
        · exact q
        · exact absurd q hi
      subst e
      have k : ∀ {us : List Nat} {τ : St}, i ∉ us → wipe (τ.set i s) us = (wipe τ us).set i s := fun {us τ} => by
        induction us with
        | nil => intro _; rfl
        | cons u us ih =>
          intro hn
          have h1 : u ≠ i := fun z => hn (by rw [z]; exact List.mem_cons_self)
          have h2 : i ∉ us := fun z => hn (List.mem_cons_of_mem _ z)
          show (wipe (τ.set i s) us).set u none = ((wipe τ us).set u none).set i s
          rw [ih h2, List.set_comm _ _ h1]
      rw [k hi, List.set_set]
theorem gt_name {i : Nat} : Gt Γ R (gName i) (Γ.set i (some R)) [i] := fun Z F H σ v Ω c r Q q => q _ (c.set i r) fun vs h => wipe_set (h i List.mem_cons_self)
theorem gts_nil : Gts Γ [] gNil Γ [] := fun Z F H σ vs Ω c rs Q q => by
  cases vs with
  | nil => exact ⟨rfl, q σ c fun _ _ => rfl⟩
  | cons _ _ => exact rs.elim
theorem gts_cons {t : TG} {u : TGs} {Γ1 Γ2 : Gm} {Rs : List As} {w1 w2 : List Nat} (h : Gt Γ R t Γ1 w1) (h' : Gts Γ1 Rs u Γ2 w2) : Gts Γ (R :: Rs) (gCons t u) Γ2 (w1 ++ w2) := fun Z F H σ vs Ω c rs Q q => by
  cases vs with
  | nil => exact rs.elim
  | cons x xs => exact ⟨x, xs, rfl, h Z F H σ x Ω c rs.1 _ fun σ1 c1 k1 => h' Z F H σ1 xs Ω c1 rs.2 Q fun σ2 c2 k2 => q σ2 c2 fun us hu =>
      (k2 us fun i hi => hu i (List.mem_append_right _ hi)).trans (k1 us fun i hi => hu i (List.mem_append_left _ hi))⟩
theorem gt_tup {n : Nat} {t : TGs} {Rs : List As} {ws : List Nat} (h : Gts Γ Rs t Γ' ws) (hn : Rs.length = n := by rfl) : Gt Γ (Tp K Rs) (gTup K n t) Γ' ws := fun Z F H σ v Ω c r Q q => by
  obtain ⟨a, xs, e, hs, hl⟩ := r
  exact ⟨a, xs, e, same_seqT c.sub hs, hl.length.trans hn, h Z F H σ xs Ω c hl Q q⟩

/-! ## statements -/
variable {n : L2.St → Hp → Prop} {r : VK} {bk ct : L2.St → Hp → Prop} {t1 t2 : TS}
theorem st_asg {g : TG} {ws : List Nat} (c : Ctx Z F H σ Γ Ω) (e : Ev Γ Ω te R) (hg : Gt Γ R g Γ' ws) (k : ∀ F' H' σ', Ctx Z F' H' σ' Γ' Ω → Same F F' → n σ' H') : tAsg te g ⟨n, r, bk, ct⟩ σ H :=
  e Z F H σ c _ fun v F1 H1 c1 s1 rv => hg Z F1 H1 σ v Ω c1 rv _ fun σ' c2 _ => k F1 H1 σ' c2 s1
theorem st_set {i : Nat} (c : Ctx Z F H σ Γ Ω) (e : Ev Γ Ω te R) (k : ∀ F' H' σ', Ctx Z F' H' σ' (Γ.set i (some R)) Ω → Same F F' → n σ' H') : tAsg te (gName i) ⟨n, r, bk, ct⟩ σ H := st_asg c e gt_name k
theorem st_drop (c : Ctx Z F H σ Γ Ω) (e : Ev Γ Ω te R) (k : ∀ F' H', Ctx Z F' H' σ Γ Ω → Same F F' → n σ H') : tDrop te ⟨n, r, bk, ct⟩ σ H := e Z F H σ c _ fun _ F1 H1 c1 s1 _ => k F1 H1 c1 s1
theorem st_ret (c : Ctx Z F H σ Γ Ω) (e : Ev Γ Ω te R) (k : ∀ v F' H', Ctx Z F' H' σ Γ Ω → Same F F' → R.p F' v → r v H') : tRet te ⟨n, r, bk, ct⟩ σ H := e Z F H σ c _ fun v F1 H1 c1 s1 rv => k v F1 H1 c1 s1 rv
theorem st_if {b : Bool} (c : Ctx Z F H σ Γ Ω) (e : EvT Γ Ω tt b) (k1 : b = true → ∀ F' H', Ctx Z F' H' σ Γ Ω → Same F F' → t1 ⟨n, r, bk, ct⟩ σ H') (k2 : b = false → ∀ F' H', Ctx Z F' H' σ Γ Ω → Same F F' → t2 ⟨n, r, bk, ct⟩ σ H') : tIfS tt t1 t2 ⟨n, r, bk, ct⟩ σ H :=
  e Z F H σ c _ fun F1 H1 c1 s1 => by
    cases b with
    | true => exact iteT (k1 rfl F1 H1 c1 s1)
    | false => exact iteF (k2 rfl F1 H1 c1 s1)
theorem st_par {i j : Nat} {ta : TA} {R1 R2 : As} (c : Ctx Z F H σ Γ Ω) (e : EvA Γ Ω ta [R1, R2]) (k : ∀ F' H' σ', Ctx Z F' H' σ' ((Γ.set i (some R1)).set j (some R2)) Ω → Same F F' → n σ' H') : tPar i j ta ⟨n, r, bk, ct⟩ σ H :=
  e Z F H σ c _ fun vs F1 H1 c1 s1 rs => by
    match vs, rs with
    | [v, w], ⟨r1, r2, _⟩ => exact ⟨v, w, rfl, k F1 H1 _ ((c1.set i r1).set j r2) s1⟩
theorem st_aug {i : Nat} {ti : TIp} {Rx : As} (c : Ctx Z F H σ Γ Ω) (h : Γ[i]? = some (some Rx)) (e : Ev Γ Ω te Ry) (hr : RV ti Rx Ry R) (k : ∀ F' H' σ', Ctx Z F' H' σ' (Γ.set i (some R)) Ω → Same F F' → n σ' H') : tAug i te ti ⟨n, r, bk, ct⟩ σ H := by
  obtain ⟨x, ex, rx⟩ := c.sat.get h
  exact ⟨x, ex, e Z F H σ c _ fun y F1 H1 c1 s1 ry => hr F1 H1 x y c1.sub (Rx.mono s1 rx) ry _ fun v F2 H2 e2 s2 rv => k F2 H2 _ ((c1.step e2 s2).set i rv) (s1.trans e2.fe)⟩
theorem st_while {ι : Type} {tc : TT} {tb : TS} (G : ι → Gm) (O : ι → Om) (P : ι → Prop) (μ : ι → Nat) (b : ι → Bool) (i0 : ι) (c : Ctx Z F H σ (G i0) (O i0)) (p0 : P i0) (ht : ∀ i, P i → EvT (G i) (O i) tc (b i))
    (body : ∀ i F H σ (N : St → Hp → Prop), P i → b i = true → Ctx Z F H σ (G i) (O i) → (∀ j F' H' σ', P j → μ j < μ i → Ctx Z F' H' σ' (G j) (O j) → N σ' H') → tb ⟨N, r, n, N⟩ σ H)
    (hd : ∀ i F H σ, P i → b i = false → Ctx Z F H σ (G i) (O i) → n σ H) : tWhile tc tb ⟨n, r, bk, ct⟩ σ H := by
  refine ⟨fun m σ H => ∃ i F, μ i = m ∧ P i ∧ Ctx Z F H σ (G i) (O i), ⟨_, i0, F, rfl, p0, c⟩, ?_⟩
  rintro m σ H ⟨i, F, rfl, p, c⟩
  refine ht i p Z F H σ c _ fun F1 H1 c1 s1 => ?_
  cases e : b i with
  | true => exact iteT ⟨fun σ' H' => ∃ m', m' < μ i ∧ ∃ j F', μ j = m' ∧ P j ∧ Ctx Z F' H' σ' (G j) (O j), fun σ' H' h => h, body i F1 H1 σ _ p e c1 fun j F' H' σ' pj lt cj => ⟨_, lt, j, F', rfl, pj, cj⟩⟩
  | false => exact iteF (hd i F1 H1 σ p e c1)
theorem st_for {ι α : Type} {tl : TE} {g : TG} {tb : TS} {xs : List α} {f : α → As} (G : ι → Gm) (G' : α → ι → Gm) (O : ι → Om) (P : Nat → ι → Prop) {ws : List Nat} (i0 : ι) (c : Ctx Z F H σ (G i0) (O i0)) (e : Ev (G i0) (O i0) tl (Ls K (xs.map f))) (p0 : P 0 i0)
    (hg : ∀ x i, Gt (G i) (f x) g (G' x i) ws)
    (body : ∀ k x i G1 F H σ (N : St → Hp → Prop), xs[k]? = some x → P k i → Ctx (Z.pin G1) F H σ (G' x i) (O i) → (∀ j F' H' σ', P (k + 1) j → Ctx (Z.pin G1) F' H' σ' (G j) (O j) → N σ' H') → tb ⟨N, r, n, N⟩ σ H)
    (hd : ∀ i F H σ, P xs.length i → Ctx Z F H σ (G i) (O i) → n σ H) : tFor (iList K tl) g tb ⟨n, r, bk, ct⟩ σ H := by
  refine e Z F H σ c _ fun v F1 H1 c1 s1 rv => ?_
  obtain ⟨a, ys, ea, hs, hl⟩ := rv
  have hlen : ys.length = xs.length := by rw [hl.length, List.length_map]
  refine ⟨a, ea, ⟨ys, c1.sub.seq hs⟩, for_list (K := K) (a := a) (xs := ys) (fun k σ H => ∃ i F, P k i ∧ Ctx (Z.pin F1) F H σ (G i) (O i)) ⟨i0, F1, p0, c1.topin (Same.refl _)⟩ (fun k σ H _ ⟨i, F, _, cc⟩ => cc.sub.seq (cc.pin.seq hs)) ?_ ?_⟩
  · rintro k y σ H hy ⟨i, F, p, cc⟩
    have hk : k < xs.length := by rw [← hlen]; exact (List.getElem?_eq_some_iff.mp hy).1
    have hx : xs[k]? = some xs[k] := List.getElem?_eq_getElem hk
    have hz : (xs.map f)[k]? = some (f xs[k]) := by rw [List.getElem?_map, hx]; rfl
    obtain ⟨y', ey, ry⟩ := hl.get hz
    rw [hy] at ey
    cases ey
    refine hg xs[k] i (Z.pin F1) F H σ y (O i) cc ((f xs[k]).mono cc.pin ry) _ fun σ' c' _ => ?_
    exact body k xs[k] i F1 F H σ' _ hx p c' fun j F' H' σ'' pj cj => ⟨j, F', pj, cj⟩
  · rintro σ H ⟨i, F, p, cc⟩
    rw [hlen] at p
    exact hd i F H σ p (cc.unpin c1.pin)
end
end Y

namespace Y
open PySem L2 PySem.Spec
open PyProof.Rows (envOfC)
open C8 (tCut pss_cut)
/-! ## a def of the text, and its promise -/
/-- where the text's def st stands -/
structure Tx (K : PySem.W.Frag) (mg : Str → Option Value) (x : Str) (st : Stmt) (ps : List Str) : Prop where
  ex : ∃ f fd, Fun K x x st f fd ∧ mg x = some (.ref f) ∧ Binds K fd ps []
structure Dn (P : Program) (w : World) (K : PySem.W.Frag) (mg : Str → Option Value) (base : Heap) (k : Nat) (x : Str) (ps : List Str) (sp : Sp) : Prop where
  ex : ∃ f fd, mg x = some (.ref f) ∧ PySem.W.keepIn K (.ref f) = true ∧ Binds K fd ps [] ∧ (∃ oc od osl, K.lookup f = some ⟨oc, od, .func fd, osl⟩) ∧ FnOk P w K mg base (L2.CX P w) k f fd ps sp
section
variable {P : Program} {w : World} {K : PySem.W.Frag} {mg : Str → Option Value} {base : Heap}
theorem Tx.okX {x : Str} {st : Stmt} {N ps : List Str} {k : Nat} {sp : Sp} (T : Tx K mg x st ps) (S : FnScope N ps (defScope st)) (len : ∀ vs H Q E, sp vs H Q E → vs.length = ps.length)
    (hbody : ∀ (f : Addr) (cdv : Value) (A : Around) (outer : List Env) (s : Shared) (H : Hp) (vs : List V) (Q : VK) (E : XK), Room k (A.deeper (envOfC x (defScope st) s.heap.objs.size f cdv)) → sp vs H Q E →
      ∃ t, PSs (cxOf (L2.CX P w) P w K mg base N x (defScope st) f cdv A outer s H E) (defBody st) t ∧ t { nx := fun _ H' => Q .non H', rt := Q } (L2.start N vs) H) : Dn P w K mg base (k + 1) x ps sp := by
  obtain ⟨f, fd, F, m, b⟩ := T.ex
  have F' := F
  obtain ⟨oc, od, kV, doc, pm, an, cdv, ct, osl, _, lk, hcd⟩ := F.ex
  exact ⟨f, fd, m, F'.kp, b, ⟨oc, od, osl, lk⟩, F'.okX S len (hbody f)⟩
theorem FnOk_x {k : Nat} {f : Addr} {fd : FuncData} {ps : List Str} {sp : Sp} (F : FnOk P w K mg base CX0 k f fd ps sp) : FnOk P w K mg base (L2.CX P w) k f fd ps sp :=
  ⟨F.len, fun A outer s H args us vs Q E hr he hb hv hs => codeAny_mono (F.run A outer s H args us vs Q E hr he hb hv hs) fun r s' hq => by
    cases r with
    | error e => exact False.elim hq
    | ok fl =>
      cases fl with
      | ret u => exact hq
      | next => exact hq
      | brk => exact hq
      | cont => exact hq⟩
/-- a def that lets nothing out -/
theorem Tx.ok {x : Str} {st : Stmt} {N ps : List Str} {k : Nat} {sp : Sp} (T : Tx K mg x st ps) (S : FnScope N ps (defScope st)) (len : ∀ vs H Q E, sp vs H Q E → vs.length = ps.length)
    (hbody : ∀ (f : Addr) (cdv : Value) (A : Around) (outer : List Env) (s : Shared) (H : Hp) (vs : List V) (Q : VK) (E : XK), Room k (A.deeper (envOfC x (defScope st) s.heap.objs.size f cdv)) → sp vs H Q E →
      ∃ t, PSs (cxOf CX0 P w K mg base N x (defScope st) f cdv A outer s H E).nox (defBody st) t ∧ t { nx := fun _ H' => Q .non H', rt := Q } (L2.start N vs) H) : Dn P w K mg base (k + 1) x ps sp := by
  obtain ⟨f, fd, F, m, b⟩ := T.ex
  have F' := F
  obtain ⟨oc, od, kV, doc, pm, an, cdv, ct, osl, _, lk, hcd⟩ := F.ex
  exact ⟨f, fd, m, F'.kp, b, ⟨oc, od, osl, lk⟩, FnOk_x (F'.ok S len (hbody f))⟩
theorem law_end {k : Nat} {x : Str} {ps : List Str} {sp : Sp} (D : Dn P w K mg base k x ps sp) {f : Addr} {fd : FuncData} {oc : Value} {od : Option Addr} {osl : Array (Option Value)} (m : mg x = some (.ref f)) (l : K.lookup f = some ⟨oc, od, .func fd, osl⟩) :
    FnOk P w K mg base (L2.CX P w) k f fd ps sp := by
  obtain ⟨f', fd', m', _, _, ⟨oc', od', osl', l'⟩, h⟩ := D.ex
  rw [m] at m'
  cases m'
  rw [l] at l'
  cases l'
  exact h
theorem tx_mk {x : Str} {st : Stmt} {f : Addr} {oc : Value} {od an : Option Addr} {osl : Array (Option Value)} {kV doc pm cdv ct : Value} {ps : List Str} {h : Heap} (X : K.In h) (G : h.Ns mainGlobals mg)
    (a : PySem.W.nsIn K mainGlobals x = some (some (.ref f)))
    (l : K.lookup f = some ⟨oc, od, .func (PySem.W.fnOf x x (defArgs st) (defBody st) (defScope st) .none kV doc pm an cdv ct), osl⟩)
    (c : PySem.W.codeIn K cdv x = true) (k : PySem.W.keepIn K (.ref f) = true)
    (hb : ∀ (kV doc pm : Value) (an : Option Addr) (cdv ct : Value) (us : List Value), us.length = ps.length → bindArgs (PySem.W.fnOf x x (defArgs st) (defBody st) (defScope st) .none kV doc pm an cdv ct) ⟨us, []⟩ = pure (ps.zip us)) : Tx K mg x st ps :=
  ⟨f, _, fun_mk l c k, PySem.W.mg_of X G a, (fun_mk l c k).binds hb⟩
section
variable {X : Cx} {k : Nat} {ps : List Str} {sp : Sp} {x : Str} {p pos : Pos} {e : Expr} {es : List Expr} {t : TA}
theorem pe_d (D : Dn X.prog X.w X.K X.mg X.base k x ps sp) (hr : Room k X.A) (hg : Gl X x) (ha : PA X (e :: es) t) (hdb : (x == ("__debug__" : Str)) = false := by decide)
    (he : starEach (e :: es) X.env = (false, eval e X.env) :: starEach es X.env := by rfl) (hpl : (backTo pos (starEach es X.env)).any (·.1) = false := by rfl) :
    PE X (.Call (.Name x p) (e :: es) [] pos) (tCall sp [] E0 t) := by
  obtain ⟨f, fd, m, kp, b, _, G⟩ := D.ex
  exact pe_call G hr hg m kp b .nil passL ha hdb he hpl
theorem pe_d0 (D : Dn X.prog X.w X.K X.mg X.base k x ps sp) (hr : Room k X.A) (hg : Gl X x) (hdb : (x == ("__debug__" : Str)) = false := by decide) :
    PE X (.Call (.Name x p) [] [] pos) (tCall sp [] E0 tNil) := by
  obtain ⟨f, fd, m, kp, b, _, G⟩ := D.ex
  exact pe_call0 G hr hg m kp b .nil passL hdb
end
section
variable {X : Cx} {k : Nat} {ps : List Str} {sp : Sp} {x : Str} {p pos : Pos} {e : Expr} {es : List Expr} {t : TA} {W : WX}
/-- a call that may raise, in a def (or a try) that lets it out (or takes it) -/
theorem pe_dS (tk : Takes X W) (D : Dn X.prog X.w X.K X.mg X.base k x ps sp) (hr : Room k X.A) (hg : Gl X x) (ha : PA X (e :: es) t) (hdb : (x == ("__debug__" : Str)) = false := by decide)
    (he : starEach (e :: es) X.env = (false, eval e X.env) :: starEach es X.env := by rfl) (hpl : (backTo pos (starEach es X.env)).any (·.1) = false := by rfl) :
    PE X (.Call (.Name x p) (e :: es) [] pos) (tCallS sp (WE W) t) := by
  obtain ⟨f, fd, m, kp, b, _, G⟩ := D.ex
  exact pe_callS G hr hg m kp b (fun σ => passAt tk σ) ha hdb he hpl
end
end
/-! ## what raises -/
def CtE {α : Type} (args : α → List As) (pre : α → Prop) (res : α → As) (good : α → Prop) (C : Addr) : Sp := fun vs H Q E =>
  ∃ a F, Same F H ∧ All F (args a) vs ∧ pre a ∧ (good a → ∀ v F' H', Ext [] F H F' H' → Same F' H' → (res a).p F' v → Q v H') ∧ (¬ good a → ∀ F' H', Ext [] F H F' H' → Same F' H' → E (.ref C) none H')
theorem CtE.len {α : Type} {args : α → List As} {pre good : α → Prop} {res : α → As} {C : Addr} {n : Nat} (h : ∀ a, (args a).length = n) : ∀ vs H Q E, CtE args pre res good C vs H Q E → vs.length = n := by
  rintro vs H Q E ⟨a, F, _, ha, _⟩
  rw [ha.length, h]
section
variable {Γ : Gm} {Ω : Om} {te ta tb : TE}
theorem ev_callE {α : Type} {args : α → List As} {pre good : α → Prop} {res : α → As} {C : Addr} {E : XK} {ta : TA} (a : α) (h : EvA Γ Ω ta (args a)) (hp : pre a) (hg : good a) : Ev Γ Ω (tCall (CtE args pre res good C) [] E ta) (res a) := fun Z F H σ c Q q =>
  h Z F H σ c _ fun vs F1 H1 c1 s1 rs => ⟨a, F1, c1.sub, by rw [List.append_nil]; exact rs, hp, fun _ v F2 H2 e2 s2 r => q v F2 H2 (c1.step e2 s2) (s1.trans e2.fe) r, fun n => absurd hg n⟩

instance (i j : Int) : Decidable (CPow i j) := inferInstanceAs (Decidable (_ ∧ _ ∧ _))
instance (i j : Int) : Decidable (CMulW i j) := inferInstanceAs (Decidable (_ < _))
instance (i j : Int) : Decidable (CDivW i j) := inferInstanceAs (Decidable (_ ∧ _))
/-- return f(..), f one that may raise -/
theorem st_retE {α : Type} {args : α → List As} {pre good : α → Prop} {res : α → As} {C : Addr} {W : St → XK} {ta : TA} {Z : Bs} {F H : Hp} {σ : L2.St} {n : L2.St → Hp → Prop} {r : VK} {bk ct : L2.St → Hp → Prop} (a : α) (c : Ctx Z F H σ Γ Ω) (h : EvA Γ Ω ta (args a)) (hp : pre a)
    (k1 : good a → ∀ v F' H', Ctx Z F' H' σ Γ Ω → Same F F' → (res a).p F' v → r v H') (k2 : ¬ good a → ∀ F' H', Ctx Z F' H' σ Γ Ω → Same F F' → W σ (.ref C) none H') : tRet (tCallS (CtE args pre res good C) W ta) ⟨n, r, bk, ct⟩ σ H :=
  h Z F H σ c _ fun vs F1 H1 c1 s1 rs => ⟨a, F1, c1.sub, rs, hp, fun g v F2 H2 e2 s2 rv => k1 g v F2 H2 (c1.step e2 s2) (s1.trans e2.fe) rv, fun g F2 H2 e2 s2 => k2 g F2 H2 (c1.step e2 s2) (s1.trans e2.fe)⟩
/-! ## ints in bounds -/
def Bt (n : Nat) (x : Int) : Prop := x.natAbs < 2 ^ n
theorem Bt.up {n m : Nat} {x : Int} (h : Bt n x) (l : n ≤ m) : Bt m x := Nat.lt_of_lt_of_le h (Nat.pow_le_pow_right (by decide) l)
theorem Bt.mul {n m : Nat} {x y : Int} (h : Bt n x) (k : Bt m y) : Bt (n + m) (x * y) := wide_lt h k
theorem Bt.add {n : Nat} {x y : Int} (h : Bt n x) (k : Bt n y) : Bt (n + 1) (x + y) := by
  unfold Bt at *
  rw [Nat.pow_succ]
  omega
theorem Bt.sub {n : Nat} {x y : Int} (h : Bt n x) (k : Bt n y) : Bt (n + 1) (x - y) := by
  unfold Bt at *
  rw [Nat.pow_succ]
  omega
theorem Bt.zero {n : Nat} : Bt n 0 := by unfold Bt; exact Nat.pow_pos (by decide)
theorem Bt.neg {n : Nat} {x : Int} (h : Bt n x) : Bt n (0 - x) := by unfold Bt at *; omega
theorem Bt.le {n : Nat} {x y : Int} (h : Bt n y) (l : x.natAbs ≤ y.natAbs) : Bt n x := Nat.lt_of_le_of_lt l h
theorem Bt.mulW {n m : Nat} {x y : Int} (h : Bt n x) (k : Bt m y) (l : n + m ≤ 900000 := by decide) : CMulW x y := by
  have h' := h.up (Nat.le_succ n)
  have k' := k.up (Nat.le_succ m)
  exact wide_mul h' k' (Nat.succ_pos _) (Nat.succ_pos _) (by omega)
theorem Bt.divW {n : Nat} {x y : Int} (h : 0 < y) (k : Bt n y) (l : n ≤ 8999 := by decide) : CDivW x y := wide_div h (k.up (Nat.le_succ n)) (Nat.succ_pos _) (by omega)

theorem All.one {F : Hp} {R : As} : ∀ {vs : List V}, All F [R] vs → ∃ v, vs = [v] ∧ R.p F v
  | [], h => h.elim
  | [v], h => ⟨v, rfl, h.1⟩
  | _ :: _ :: _, h => h.2.elim
theorem All.two {F : Hp} {R R' : As} : ∀ {vs : List V}, All F [R, R'] vs → ∃ v w, vs = [v, w] ∧ R.p F v ∧ R'.p F w
  | [], h => h.elim
  | [_], h => h.2.elim
  | [v, w], h => ⟨v, w, rfl, h.1, h.2.1⟩
  | _ :: _ :: _ :: _, h => h.2.2.elim
theorem Bt.divP {n : Nat} {x y : Int} (h : 0 < y) (k : Bt n y) (l : n ≤ 8999 := by decide) : CDivP x y := ⟨h, PyProof.noPylong_of_log2 (Bt.divW (x := x) h k l).2⟩
/-! ## built-ins by values -/
theorem rc_abs {n : Int} : RC (fun xs H Q => ∃ i, xs = [.int i] ∧ Q (.int (if i < 0 then -i else i)) H) [I n] (I (n.natAbs : Int)) := fun F H vs s h Q q => by
    obtain ⟨v, rfl, e⟩ := h.one
    cases e
    refine ⟨n, rfl, ?_⟩
    have z : (if n < 0 then -n else n) = (n.natAbs : Int) := by split <;> omega
    rw [z]
    exact q _ F H (Ext.refl _ _ _) s rfl
theorem rc_lenL {K : PySem.W.Frag} {Rs : List As} : RC (fun xs H Q => ∃ p ys, xs = [.ref p] ∧ (SqL K H p ys ∨ SqT K H p ys) ∧ Q (.int ys.length) H) [Ls K Rs] (I (Rs.length : Int)) := fun F H vs s h Q q => by
    obtain ⟨v, rfl, a, xs, e, hs, hl⟩ := h.one
    cases e
    have z := hl.length
    exact ⟨a, xs, rfl, .inl (s.seq hs), by rw [z]; exact q _ F H (Ext.refl _ _ _) s rfl⟩
theorem rc_lenT {K : PySem.W.Frag} {Rs : List As} : RC (fun xs H Q => ∃ p ys, xs = [.ref p] ∧ (SqL K H p ys ∨ SqT K H p ys) ∧ Q (.int ys.length) H) [Tp K Rs] (I (Rs.length : Int)) := fun F H vs s h Q q => by
    obtain ⟨v, rfl, a, xs, e, hs, hl⟩ := h.one
    cases e
    have z := hl.length
    exact ⟨a, xs, rfl, .inr (same_seqT s hs), by rw [z]; exact q _ F H (Ext.refl _ _ _) s rfl⟩
theorem rc_divmod {K : PySem.W.Frag} {C : Int → Int → Prop} {i j : Int} (h : C i j) : RC (fun xs H Q => ∃ i j, xs = [.int i, .int j] ∧ C i j ∧ ∀ p, H p = none → Q (.ref p) (upd H p (.tup [.int (i / j), .int (i % j)]))) [I i, I j] (Tp K [I (i / j), I (i % j)]) := fun F H vs s hv Q q => by
    obtain ⟨v, w, rfl, e, e'⟩ := hv.two
    cases e; cases e'
    refine ⟨i, j, rfl, h, fun p hp => ?_⟩
    obtain ⟨e, s'⟩ := Ext.new (o := .tup [.int (i / j), .int (i % j)]) s hp
    exact q _ _ _ e s' ⟨p, _, rfl, SqT.of upd_same, rfl, rfl, trivial⟩
/-! isinstance -/
/-- the type of what an assertion tells of -/
structure HasTy (K : PySem.W.Frag) (R : As) (t : Value) : Prop where
  ty : ∀ F H v, Same F H → R.p F v → TyX K H v t
theorem ty_int {K : PySem.W.Frag} {n : Int} : HasTy K (I n) (.type "int") := ⟨fun F H v s e => by cases e; exact .base (.int n)⟩
theorem ty_bool {K : PySem.W.Frag} {n : Bool} : HasTy K (B n) (.type "bool") := ⟨fun F H v s e => by cases e; exact .base (.bl n)⟩
theorem ty_tup {K : PySem.W.Frag} {Rs : List As} : HasTy K (Tp K Rs) (.type "tuple") := ⟨fun F H v s e => by
  obtain ⟨a, xs, e, hs, _⟩ := e
  cases e
  rcases hs with (h | ⟨o, h⟩) | ⟨o, its, n, h, hc, _⟩
  · exact .base (.tup (s _ _ h))
  · exact .fTuple (s _ _ h)
  · exact .kTuple h hc⟩
theorem ty_lst {K : PySem.W.Frag} {Rs : List As} : HasTy K (Ls K Rs) (.type "list") := ⟨fun F H v s e => by
  obtain ⟨a, xs, e, hs, _⟩ := e
  cases e
  rcases hs with (h | ⟨o, h⟩) | ⟨o, its, n, h, hc, _⟩
  · exact .base (.lst (s _ _ h))
  · exact .base (.frz (s _ _ h))
  · exact .kList h hc⟩
theorem rc_isi {K : PySem.W.Frag} {R : As} {t u : Value} {c : V} {b : Bool} (hc : ClsV c u) (ht : HasTy K R t) (hk : PySem.W.kitOne K t u = some b) : RC (rIsi K) [R, Cst c] (B b) := fun F H vs s h Q q => by
    obtain ⟨x, y, rfl, r, e⟩ := h.two
    cases e
    exact ⟨x, c, t, u, b, rfl, hc, ht.ty F H x s r, hk, q _ F H (Ext.refl _ _ _) s rfl⟩

theorem rc_list {K : PySem.W.Frag} {Rs : List As} : RC (fun xs H Q => ∃ p ys, xs = [.ref p] ∧ (SqL K H p ys ∨ SqT K H p ys) ∧ ∀ l, H l = none → Q (.ref l) (upd H l (.lst ys))) [Ls K Rs] (Ls K Rs) := fun F H vs s h Q q => by
  obtain ⟨v, rfl, a, xs, e, hs, hl⟩ := h.one
  cases e
  refine ⟨a, xs, rfl, .inl (s.seq hs), fun p hp => ?_⟩
  obtain ⟨e, s'⟩ := Ext.new (o := .lst xs) s hp
  exact q _ _ _ e s' ⟨p, _, rfl, SqL.of upd_same, hl.mono e.fe⟩
/-! pairs of ints, fractions -/
def Fr (K : PySem.W.Frag) (q : Int × Int) : As := Tp K [I q.1, I q.2]
theorem ev_fr {K : PySem.W.Frag} {ta : TA} {a b : Int} (h : EvA Γ Ω ta [I a, I b]) : Ev Γ Ω (tTup ta) (Fr K (a, b)) := ev_tup h (show 2 ≤ 1000 by decide)
theorem ty_fr {K : PySem.W.Frag} {q : Int × Int} : HasTy K (Fr K q) (.type "tuple") := ty_tup
theorem rc_lenF {K : PySem.W.Frag} {q : Int × Int} : RC (fun xs H Q => ∃ p ys, xs = [.ref p] ∧ (SqL K H p ys ∨ SqT K H p ys) ∧ Q (.int ys.length) H) [Fr K q] (I 2) := rc_lenT
/-! tests by chains -/
theorem ev_chain {p1 p2 : Int → Int → Bool} {i j k : Int} {tc : TE} (ha : Ev Γ Ω ta (I i)) (hb : Ev Γ Ω tb (I j)) (hc : Ev Γ Ω tc (I k)) : Ev Γ Ω (tChain (rI0 fun i j => .bl (p1 i j)) (rI0 fun i j => .bl (p2 i j)) ta tb tc) (B (p1 i j && p2 j k)) := fun Z F H σ c Q q =>
  ha Z F H σ c _ fun x F1 H1 c1 s1 rx => hb Z F1 H1 σ c1 _ fun y F2 H2 c2 s2 ry => by
    cases rx; cases ry
    refine ⟨i, j, rfl, rfl, p1 i j, rfl, ?_⟩
    cases e : p1 i j with
    | true =>
      refine iteT (hc Z F2 H2 σ c2 _ fun z F3 H3 c3 s3 rz => ?_)
      cases rz
      exact ⟨j, k, rfl, rfl, q _ F3 H3 c3 (s1.trans (s2.trans s3)) (show V.bl (p2 j k) = V.bl (p1 i j && p2 j k) by rw [e]; rfl)⟩
    | false => exact iteF (q _ F2 H2 c2 (s1.trans s2) (show V.bl false = V.bl (p1 i j && p2 j k) by rw [e]; rfl))
theorem et_chain {p1 p2 : Int → Int → Bool} {i j k : Int} {tc : TE} (ha : Ev Γ Ω ta (I i)) (hb : Ev Γ Ω tb (I j)) (hc : Ev Γ Ω tc (I k)) : EvT Γ Ω (tTest (tChain (rI0 fun i j => .bl (p1 i j)) (rI0 fun i j => .bl (p2 i j)) ta tb tc)) (p1 i j && p2 j k) := et_test (ev_chain ha hb hc)
end
/-! ## blocks -/
section
variable {Z : Bs} {F H F' H' : Hp} {σ σ' : L2.St} {Γ Γ' : Gm} {Ω Ω' : Om} {K : PySem.W.Frag} {n : L2.St → Hp → Prop} {r : VK} {bk ct : L2.St → Hp → Prop} {t1 t2 : TS}
theorem sq (h : t1 ⟨t2 ⟨n, r, bk, ct⟩, r, bk, ct⟩ σ H) : tSeq t1 t2 ⟨n, r, bk, ct⟩ σ H := h
theorem cut {ι : Type} (c : Ctx Z F H σ Γ Ω) (G : ι → Gm) (O : ι → Om) (P : ι → Prop) (h1 : ∀ N : L2.St → Hp → Prop, (∀ i F' H' σ', P i → Ctx Z F' H' σ' (G i) (O i) → N σ' H') → t1 ⟨N, r, bk, ct⟩ σ H) (h2 : ∀ i F' H' σ', P i → Ctx Z F' H' σ' (G i) (O i) → t2 ⟨n, r, bk, ct⟩ σ' H') : tCut t1 t2 ⟨n, r, bk, ct⟩ σ H :=
  ⟨fun σ H => ∃ i F, P i ∧ Ctx Z F H σ (G i) (O i), h1 _ fun i F' H' σ' p c => ⟨i, F', p, c⟩, fun σ H ⟨i, F, p, c⟩ => h2 i F H σ p c⟩
/-- what is known of a slot is some member of a family -/
theorem Ctx.opn {β : Type} {P : β → Prop} {R : β → As} (c : Ctx Z F H σ Γ Ω) (i : Nat) (h : Γ[i]? = some (some (Xs P R))) : ∃ b, P b ∧ Ctx Z F H σ (Γ.set i (some (R b))) Ω := by
  obtain ⟨v, e, b, hp, hr⟩ := c.sat.get h
  have z := c.set i hr
  have e2 : σ.set i (some v) = σ := by
    apply List.ext_getElem?
    intro j
    by_cases hj : i = j
    · subst hj
      rw [List.getElem?_set_self (by have := (List.getElem?_eq_some_iff.mp e).1; exact this), e]
    · rw [List.getElem?_set_ne hj]
  rw [e2] at z
  exact ⟨b, hp, z⟩
theorem nxt (q : n σ H) : tNext ⟨n, r, bk, ct⟩ σ H := q
/-- an error of the text's own, made with a text -/
structure Xc (K : PySem.W.Frag) (mg : Str → Option Value) (C : Addr) (x : Str) : Prop where
  gC : mg x = some (.ref C)
  ex : PySem.W.excIn K C [.type "ValueError", .type "Exception", .type "BaseException", .type "object"] "ValueError.__new__" = true
  kC : PySem.W.keepIn K (.ref C) = true
  sB : PySem.W.subIn K (.ref C) (.type "BaseException") = some true
  tC : PySem.W.typeIn K (.ref C) = some (.type "type")
end
theorem ev_frI {Γ : Gm} {Ω : Om} {K : PySem.W.Frag} {ta : TA} {a : Int} (h : EvA Γ Ω ta [I a, I 1]) : Ev Γ Ω (tTup ta) (Fr K ((a : Rat).num, ((a : Rat).den : Int))) := ev_fr h
theorem ev_k {Γ : Gm} {Ω : Om} {te : TE} {m n : Int} (h : Ev Γ Ω te (I m)) (e : m = n) : Ev Γ Ω te (I n) := e ▸ h
/-! ## the law -/
def LawSp (K : PySem.W.Frag) : Sp := CtF (fun ns : List Int => [Ls K (ns.map fun n => I n)]) (fun ns => ns.length ≤ 63) (fun _ => B true)
theorem all_ints {F : Hp} : ∀ ns : List Int, All F (ns.map fun n => I n) (ns.map V.int)
  | [] => trivial
  | _ :: r => ⟨rfl, all_ints r⟩
theorem law_start {K : PySem.W.Frag} {H : Hp} {a : Addr} {ns : List Int} (hl : ns.length ≤ 63) (hS : SqL K H a (ns.map V.int)) : LawSp K [.ref a] H (fun v _ => v = .bl true) (fun _ _ _ => False) :=
  ⟨ns, H, Same.refl H, ⟨⟨a, _, rfl, hS, all_ints ns⟩, trivial⟩, hl, fun v F' H' _ _ r => r⟩
end Y

local macro_rules | `(tactic| walk_at "y") => `(tactic| first | assumption | trivial | decide +kernel | (exact ⟨by decide +kernel, by decide +kernel⟩) | omega)
local macro_rules | `(tactic| walk_at "ty") => `(tactic| first | exact Y.ty_int | exact Y.ty_fr | exact Y.ty_tup | exact Y.ty_lst | exact Y.ty_bool)

namespace Y
open PySem L2 PySem.Spec
open PyProof.Rows (envOfC)
open C8 (tCut pss_cut)
def top (i : Nat) : Stmt := PySem.Challenge.pw_sharewheel_k05_whole_neighbours.main.body.getD i (.Pass ⟨0, 0, 0, 0⟩)
abbrev s_whole_below : Stmt := top 1
theorem sc_whole_below : FnScope ["one"] ["one"] (defScope s_whole_below) := ⟨rfl, rfl, rfl, by decide +kernel, rfl, by decide +kernel, by decide +kernel⟩
abbrev s_whole_above : Stmt := top 2
theorem sc_whole_above : FnScope ["one", "whole", "rest"] ["one"] (defScope s_whole_above) := ⟨rfl, rfl, rfl, by decide +kernel, rfl, by decide +kernel, by decide +kernel⟩
abbrev s__law_cell_at : Stmt := top 4
theorem sc__law_cell_at : FnScope ["_law_script", "_law_k"] ["_law_script", "_law_k"] (defScope s__law_cell_at) := ⟨rfl, rfl, rfl, by decide +kernel, rfl, by decide +kernel, by decide +kernel⟩
abbrev s__law_whole : Stmt := top 5
theorem sc__law_whole : FnScope ["_law_found"] ["_law_found"] (defScope s__law_whole) := ⟨rfl, rfl, rfl, by decide +kernel, rfl, by decide +kernel, by decide +kernel⟩
abbrev s__law_shared : Stmt := top 6
theorem sc__law_shared : FnScope ["_law_one", "_law_other"] ["_law_one", "_law_other"] (defScope s__law_shared) := ⟨rfl, rfl, rfl, by decide +kernel, rfl, by decide +kernel, by decide +kernel⟩
abbrev s__law_fraction : Stmt := top 7
theorem sc__law_fraction : FnScope ["_law_up", "_law_down", "_law_top", "_law_bottom", "_law_shared_here"] ["_law_up", "_law_down"] (defScope s__law_fraction) := ⟨rfl, rfl, rfl, by decide +kernel, rfl, by decide +kernel, by decide +kernel⟩
abbrev s_law : Stmt := top 8
theorem sc_law : FnScope ["_law_script", "_law_one", "_law_below", "_law_above"] ["_law_script"] (defScope s_law) := ⟨rfl, rfl, rfl, by decide +kernel, rfl, by decide +kernel, by decide +kernel⟩
/-- what the text's top leaves -/
structure G (K : PySem.W.Frag) (mg : Str → Option Value) (C : Str → Addr) : Prop where
  b_abs : mg "abs" = none
  b_bool : mg "bool" = none
  b_divmod : mg "divmod" = none
  b_int : mg "int" = none
  b_isinstance : mg "isinstance" = none
  b_len : mg "len" = none
  d_whole_below : Tx K mg "whole_below" s_whole_below ["one"]
  d_whole_above : Tx K mg "whole_above" s_whole_above ["one"]
  d__law_cell_at : Tx K mg "_law_cell_at" s__law_cell_at ["_law_script", "_law_k"]
  d__law_whole : Tx K mg "_law_whole" s__law_whole ["_law_found"]
  d__law_shared : Tx K mg "_law_shared" s__law_shared ["_law_one", "_law_other"]
  d__law_fraction : Tx K mg "_law_fraction" s__law_fraction ["_law_up", "_law_down"]
  d_law : Tx K mg "law" s_law ["_law_script"]
theorem gcd_turn {x y : Int} (hx : 0 ≤ x) (hy : 0 < y) : Int.gcd y (x % y) = Int.gcd x y := by
  obtain ⟨a, rfl⟩ := Int.eq_ofNat_of_zero_le hx
  obtain ⟨b, rfl⟩ := Int.eq_ofNat_of_zero_le (Int.le_of_lt hy)
  show Nat.gcd b (a % b) = Nat.gcd a b
  rw [Nat.gcd_comm b (a % b), ← Nat.gcd_rec, Nat.gcd_comm]
/-- the cell that a law draws by -/
def cell (ns : List Int) (k : Int) : Int := if k < (ns.length : Int) then ns.getD k.toNat 0 else 0
theorem atI_ints {ns : List Int} {k : Int} (h0 : 0 ≤ k) (h : k < (ns.length : Int)) : atI (ns.map fun n => I n) k = some (I (cell ns k)) := by
  have hk : k.toNat < ns.length := by omega
  have ek : k = ((k.toNat : Nat) : Int) := by omega
  have z : cell ns k = ns[k.toNat] := by
    unfold cell
    rw [if_pos h, List.getD_eq_getElem?_getD, List.getElem?_eq_getElem hk]; rfl
  rw [z]
  generalize hj : k.toNat = j at hk ek
  subst ek
  refine (atI_nat (xs := ns.map fun n => I n) (by rw [List.getElem?_map, List.getElem?_eq_getElem hk]; rfl)).trans ?_
  simp only [hj]
theorem bt_one (n : Nat) : Bt (n + 1) 1 := Nat.one_lt_two_pow (Nat.succ_ne_zero n)
theorem gcd_bt {x y : Int} {n : Nat} (h : Bt n y) (hy : y ≠ 0) : Bt n (Int.gcd x y : Int) := by
  have e := Nat.le_of_dvd (Int.natAbs_pos.mpr hy) (Int.natAbs_dvd_natAbs.mpr (Int.gcd_dvd_right x y))
  exact h.le e
theorem gcd_pos {x y : Int} (hy : y ≠ 0) : (0 : Int) < (Int.gcd x y : Int) := by
  have : Int.gcd x y ≠ 0 := fun e => hy (Int.gcd_eq_zero_iff.mp e).2
  omega
/-! fractions: a fraction is the rational number that it tells -/
def Fq (K : PySem.W.Frag) (r : Rat) : As := Fr K (r.num, (r.den : Int))
theorem ty_fq {K : PySem.W.Frag} {r : Rat} : HasTy K (Fq K r) (.type "tuple") := ty_tup
theorem rc_lenQ {K : PySem.W.Frag} {r : Rat} : RC (fun xs H Q => ∃ p ys, xs = [.ref p] ∧ (SqL K H p ys ∨ SqT K H p ys) ∧ Q (.int ys.length) H) [Fq K r] (I 2) := rc_lenT
def Sz (r : Rat) : Prop := Bt 4400 r.num ∧ Bt 4400 (r.den : Int)
theorem fr_of (t b : Int) (hb : 0 < b) : (t / (Int.gcd t b : Int), b / (Int.gcd t b : Int)) = ((Rat.divInt t b).num, ((Rat.divInt t b).den : Int)) := by
  have h1 : (Rat.divInt t b).num = t / (Int.gcd t b : Int) := by rw [Rat.num_divInt, Int.sign_eq_one_of_pos hb, Int.one_mul, Int.gcd_comm]
  have h2 : ((Rat.divInt t b).den : Int) = b / (Int.gcd t b : Int) := by
    rw [Rat.den_divInt, if_neg (by omega), Int.gcd_comm]
    rw [Int.natCast_ediv, Int.natAbs_of_nonneg (by omega)]
  rw [h1, h2]
theorem fr_neg (t b : Int) (hb : b < 0) : ((0 - t) / (Int.gcd (0 - t) (0 - b) : Int), (0 - b) / (Int.gcd (0 - t) (0 - b) : Int)) = ((Rat.divInt t b).num, ((Rat.divInt t b).den : Int)) := by
  have e : Rat.divInt t b = Rat.divInt (0 - t) (0 - b) := by rw [Int.zero_sub, Int.zero_sub, Rat.neg_divInt_neg]
  rw [e]
  exact fr_of _ _ (by omega)
theorem r_den0 (a : Rat) : (a.den : Int) ≠ 0 := by have := a.den_nz; omega
theorem r_den1 (a : Rat) : (0 : Int) < a.den := by have := a.den_nz; omega
theorem r_add (a b : Rat) : Rat.divInt (a.num * b.den + b.num * a.den) (a.den * b.den) = a + b := by
  have := Rat.divInt_add_divInt a.num b.num (r_den0 a) (r_den0 b)
  rw [← this, Rat.num_divInt_den, Rat.num_divInt_den]
theorem r_sub (a b : Rat) : Rat.divInt (a.num * b.den - b.num * a.den) (a.den * b.den) = a - b := by
  have := Rat.divInt_sub_divInt a.num b.num (r_den0 a) (r_den0 b)
  rw [← this, Rat.num_divInt_den, Rat.num_divInt_den]
theorem r_mul (a b : Rat) : Rat.divInt (a.num * b.num) (a.den * b.den) = a * b := by
  have := Rat.divInt_mul_divInt a.num b.num (d₁ := a.den) (d₂ := b.den)
  rw [← this, Rat.num_divInt_den, Rat.num_divInt_den]
theorem r_div (a b : Rat) : Rat.divInt (a.num * b.den) (a.den * b.num) = a / b := by
  have := Rat.divInt_mul_divInt a.num b.den (d₁ := a.den) (d₂ := b.num)
  rw [← this, Rat.num_divInt_den, Rat.div_def]
  congr 1
  rw [Rat.inv_def]
theorem r_lt (a b : Rat) : decide (a.num * b.den < b.num * a.den) = decide (a < b) := by simp [Rat.lt_iff]
theorem r_cross {t b : Int} (hb : b ≠ 0) : (Rat.divInt t b).num * b = t * ((Rat.divInt t b).den : Int) := (Rat.divInt_eq_divInt_iff (r_den0 _) hb).mp (Rat.num_divInt_den _)
theorem r_red (a : Rat) : Int.gcd a.num a.den = 1 := a.reduced
theorem Sz.int {n : Int} (h : Bt 4400 n) : Sz (n : Rat) := ⟨h, by show Bt 4400 1; unfold Bt; exact Nat.one_lt_two_pow (by decide)⟩
theorem bt_num {n : Nat} {t b : Int} (h : Bt n t) (hb : 0 < b) : Bt n (Rat.divInt t b).num := by
  have e := congrArg Prod.fst (fr_of t b hb)
  dsimp only at e
  rw [← e]
  exact h.le (Int.natAbs_ediv_le_natAbs _ _)
theorem bt_den {n : Nat} {t b : Int} (h : Bt n b) (hb : 0 < b) : Bt n ((Rat.divInt t b).den : Int) := by
  have e := congrArg Prod.snd (fr_of t b hb)
  dsimp only at e
  rw [← e]
  exact h.le (Int.natAbs_ediv_le_natAbs _ _)
/-- what a law builds: some fraction, not too long -/
def Bq (n : Nat) (r : Rat) : Prop := Bt n r.num ∧ Bt n (r.den : Int)
theorem Bq.sz {n : Nat} {r : Rat} (h : Bq n r) (l : n ≤ 4400 := by decide) : Sz r := ⟨h.1.up l, h.2.up l⟩
def Sq (K : PySem.W.Frag) (n : Nat) : As := Xs (Bq n) (Fq K)
theorem sq_of {K : PySem.W.Frag} {n : Nat} {r : Rat} {F : Hp} {v : V} (h : (Fq K r).p F v) (b : Bq n r) : (Sq K n).p F v := ⟨r, b, h⟩
/-- a fraction handed out of two ints -/
theorem ev_fq {Γ : Gm} {Ω : Om} {K : PySem.W.Frag} {te : TE} {a b : Int} {r : Rat} (h : Ev Γ Ω te (Fr K (a, b))) (e : (a, b) = (r.num, (r.den : Int))) : Ev Γ Ω te (Fq K r) := by
  unfold Fq
  rw [← e]
  exact h

section
variable {P : Program} {w : World} {K : PySem.W.Frag} {mg : Str → Option Value} {base : Heap} {C : Str → Addr}
def sp_whole_below (K : PySem.W.Frag) (C : Str → Addr) : Sp := CtF (fun a : Rat => [Fq K a]) (fun a => Sz a) (fun a => I a.floor)
theorem ok_whole_below (T : G K mg C)  : Dn P w K mg base 1 "whole_below" ["one"] (sp_whole_below K C) := by
  refine T.d_whole_below.ok sc_whole_below (by first | exact CtF.len (fun _ => rfl) | exact CtE.len (fun _ => rfl) | exact sp_whole_below_len) (fun f cdv A outer s H vs Q E hr h => ?_)
  obtain ⟨x, F, sFH, ha, hp, hq⟩ := h
  have c := ctx_start (N := ["one"]) sFH ha
  refine ⟨_, (pss_one (ps_ret (pe_op op_fdivW (pe_ix ix_tup (pv 0) pe_int (fun _ _ => rfl)) (pe_ix ix_tup (pv 0) pe_int (fun _ _ => rfl))))), ?_⟩
  dsimp only at hq
  rw [Rat.floor_def] at hq
  refine st_ret c (ev_I (ev_ixT (K := K) (ev_var rfl) ev_c rfl) (ev_ixT (K := K) (ev_var rfl) ev_c rfl) (by exact hp.2.divW (r_den1 x))) (fun v F' H' c _ r => hq v F' H' c.ext c.sub r)
theorem ceil_of (x : Rat) : (if (0 : Int) < x.num % x.den then x.num / x.den + 1 else x.num / x.den) = x.ceil := by
  have d := r_den1 x
  have h0 := Int.emod_nonneg x.num (Int.ne_of_gt d)
  have e := Int.mul_ediv_add_emod x.num x.den
  have f1 : x.floor = x.num / x.den := Rat.floor_def x
  have hle : (x.floor : Rat) ≤ x := Rat.floor_le x
  have hlt : x < (x.floor + 1 : Rat) := by
    have := Rat.lt_floor (x := x)
    grind
  split
  · rename_i hr
    refine Int.le_antisymm ?_ ?_
    · have h : x.floor < x.ceil := by
        have : (x.floor : Rat) < x := by
          rw [Rat.lt_iff]
          show x.floor * (x.den : Int) < x.num * 1
          rw [f1, Int.mul_comm (x.num / x.den)]; omega
        exact Rat.lt_ceil_iff.mpr this
      omega
    · refine Rat.ceil_le_iff.mpr ?_
      rw [← f1]
      have : ((x.floor + 1 : Int) : Rat) = (x.floor : Rat) + 1 := by simp [Rat.intCast_add]
      rw [this]
      exact Rat.le_of_lt hlt
  · rename_i hr
    have hz : x.num % x.den = 0 := by omega
    have hx : x = ((x.num / x.den : Int) : Rat) := by
      have h1 : x.num = x.den * (x.num / x.den) := by omega
      refine Rat.le_antisymm ?_ (by rw [← f1]; exact hle)
      rw [Rat.le_iff]
      show x.num * 1 ≤ (x.num / x.den) * (x.den : Int)
      rw [Int.mul_comm (x.num / x.den)]; omega
    have : x.ceil = x.num / x.den := by
      conv => lhs; rw [hx]
      exact Rat.ceil_intCast _
    exact this.symm
def sp_whole_above (K : PySem.W.Frag) (C : Str → Addr) : Sp := CtF (fun a : Rat => [Fq K a]) (fun a => Sz a) (fun a => I a.ceil)
theorem ok_whole_above (T : G K mg C)  : Dn P w K mg base 1 "whole_above" ["one"] (sp_whole_above K C) := by
  refine T.d_whole_above.ok sc_whole_above (by first | exact CtF.len (fun _ => rfl) | exact CtE.len (fun _ => rfl) | exact sp_whole_above_len) (fun f cdv A outer s H vs Q E hr h => ?_)
  obtain ⟨x, F, sFH, ha, hp, hq⟩ := h
  have c := ctx_start (N := ["one", "whole", "rest"]) sFH ha
  refine ⟨_, (pss_cons (ps_asg (pe_callB call_divmodW (by rfl) T.b_divmod (by decide +kernel) (pa_cons (pe_ix ix_tup (pv 0) pe_int (fun _ _ => rfl)) (pa_cons (pe_ix ix_tup (pv 0) pe_int (fun _ _ => rfl)) pa_nil))) (pg_tup rfl (pgs_cons (pg_name (i := 1) sc_whole_above.nd rfl (by first | exact Or.inl rfl | exact Or.inr rfl)) (pgs_cons (pg_name (i := 2) sc_whole_above.nd rfl (by first | exact Or.inl rfl | exact Or.inr rfl)) pgs_nil))))
    (pss_cut (ps_if (pt_cmpR op_gt (pv 2) pe_int (nomark _))
      (pss_one (ps_aug (i := 1) sc_whole_above.nd rfl (by first | exact Or.inl rfl | exact Or.inr rfl) pe_int ip_add))
      pss_nil)
    (pss_one (ps_ret (pv 1))))), ?_⟩
  dsimp only at hq
  rw [← ceil_of] at hq
  refine sq (st_asg c (ev_cb (ea_cons (ev_ixT (K := K) (ev_var rfl) ev_c rfl) (ea_cons (ev_ixT (K := K) (ev_var rfl) ev_c rfl) ea_nil)) (rc_divmod (K := K) (by exact hp.2.divP (r_den1 x)))) (gt_tup (gts_cons gt_name (gts_cons gt_name gts_nil))) (fun F H σ c _ => ?_))
  refine cut c (fun i : Int => [some (Fq K x), some (I i), some (I (x.num % x.den))]) (fun _ => []) (fun i => i = (if (0 : Int) < x.num % x.den then x.num / x.den + 1 else x.num / x.den)) (fun N hN => ?_) ?_
  · refine st_if c (et_test (ev_I0 (ev_var rfl) ev_c)) (fun hb F H c _ => ?_) (fun hb F H c _ => ?_)
    · have hk : (0 : Int) < x.num % x.den := by simpa using hb
      refine st_aug c rfl ev_c rv_I0 (fun F H σ c _ => ?_)
      exact hN _ F H σ (by rw [if_pos hk]) c
    · have hk : ¬ (0 : Int) < x.num % x.den := by simpa using hb
      exact nxt (hN _ F H _ (by rw [if_neg hk]) c)
  rintro i F H σ hi c
  refine st_ret c (ev_var rfl) (fun v F' H' c _ r => hq v F' H' c.ext c.sub (by rw [← hi]; exact r))
def sp__law_cell_at (K : PySem.W.Frag) (C : Str → Addr) : Sp := CtF (fun a : List Int × Int => [Ls K (a.1.map fun n => I n), I a.2]) (fun a => 0 ≤ a.2) (fun a => I (cell a.1 a.2))
theorem ok__law_cell_at (T : G K mg C)  : Dn P w K mg base 1 "_law_cell_at" ["_law_script", "_law_k"] (sp__law_cell_at K C) := by
  refine T.d__law_cell_at.ok sc__law_cell_at (by first | exact CtF.len (fun _ => rfl) | exact CtE.len (fun _ => rfl) | exact sp__law_cell_at_len) (fun f cdv A outer s H vs Q E hr h => ?_)
  obtain ⟨⟨ns, k⟩, F, sFH, ha, hp, hq⟩ := h
  have c := ctx_start (N := ["_law_script", "_law_k"]) sFH ha
  refine ⟨_, (pss_cons (ps_if (pt_cmpR op_lt (pv 1) (pe_callB call_len_seq (by rfl) T.b_len (by decide +kernel) (pa_cons (pv 0) pa_nil)) (nomark _))
      (pss_one (ps_ret (pe_ix ix_list (pv 0) (pv 1) (fun _ _ => rfl))))
      pss_nil)
    (pss_one (ps_ret pe_int))), ?_⟩
  refine sq (st_if c (et_test (ev_I0 (ev_var rfl) (ev_cb (ea_cons (ev_var rfl) ea_nil) rc_lenL))) (fun hb F H c _ => ?_) (fun hb F H c _ => ?_))
  · have hk : k < (ns.length : Int) := by simpa using hb
    exact st_ret c (ev_ixL (ev_var rfl) (ev_var rfl) (atI_ints hp hk)) (fun v F' H' c _ r => hq v F' H' c.ext c.sub r)
  · have hk : ¬ k < (ns.length : Int) := by simpa using hb
    refine nxt (st_ret c ev_c (fun v F' H' c _ r => hq v F' H' c.ext c.sub ?_))
    show v = V.int (cell ns k)
    unfold cell
    rw [if_neg hk]; exact r
def sp__law_whole (K : PySem.W.Frag) (C : Str → Addr) : Sp := CtF (fun a : Int => [I a]) (fun _ => True) (fun _ => B true)
theorem ok__law_whole (T : G K mg C)  : Dn P w K mg base 1 "_law_whole" ["_law_found"] (sp__law_whole K C) := by
  refine T.d__law_whole.ok sc__law_whole (by first | exact CtF.len (fun _ => rfl) | exact CtE.len (fun _ => rfl) | exact sp__law_whole_len) (fun f cdv A outer s H vs Q E hr h => ?_)
  obtain ⟨n, F, sFH, ha, hp, hq⟩ := h
  have c := ctx_start (N := ["_law_found"]) sFH ha
  refine ⟨_, (pss_one (ps_ret (pe_and (pe_callB call_isi (by rfl) T.b_isinstance (by decide +kernel) (pa_cons (pv 0) (pa_cons (pe_bltn (by rfl) T.b_int (u := .type "int") (v := .ty "int") (by decide +kernel) rfl) pa_nil))) (pe_one (pe_not (pe_callB call_isi (by rfl) T.b_isinstance (by decide +kernel) (pa_cons (pv 0) (pa_cons (pe_bltn (by rfl) T.b_bool (u := .type "bool") (v := .ty "bool") (by decide +kernel) rfl) pa_nil)))))))), ?_⟩
  exact st_ret c (ev_andV (ev_cb (ea_cons (ev_var rfl) (ea_cons ev_c ea_nil)) (rc_isi (.ty _) (by walk_at "ty") (kit_ty (r := true) rfl))) (fun hb => (ev_notV (ev_cb (ea_cons (ev_var rfl) (ea_cons ev_c ea_nil)) (rc_isi (.ty _) (by walk_at "ty") (kit_ty (r := false) rfl)))))) (fun v F' H' c _ r => hq v F' H' c.ext c.sub r)
def sp__law_shared (K : PySem.W.Frag) (C : Str → Addr) : Sp := CtF (fun a : Int × Int => [I a.1, I a.2]) (fun _ => True) (fun a => I (Int.gcd a.1 a.2 : Int))
theorem ok__law_shared (T : G K mg C)  : Dn P w K mg base 1 "_law_shared" ["_law_one", "_law_other"] (sp__law_shared K C) := by
  refine T.d__law_shared.ok sc__law_shared (by first | exact CtF.len (fun _ => rfl) | exact CtE.len (fun _ => rfl) | exact sp__law_shared_len) (fun f cdv A outer s H vs Q E hr h => ?_)
  obtain ⟨⟨x, y⟩, F, sFH, ha, hp, hq⟩ := h
  have c := ctx_start (N := ["_law_one", "_law_other"]) sFH ha
  refine ⟨_, (pss_cons (ps_set (i := 0) sc__law_shared.nd rfl (by first | exact Or.inl rfl | exact Or.inr rfl) (pe_callB call_abs (by rfl) T.b_abs (by decide +kernel) (pa_cons (pv 0) pa_nil)))
    (pss_cons (ps_set (i := 1) sc__law_shared.nd rfl (by first | exact Or.inl rfl | exact Or.inr rfl) (pe_callB call_abs (by rfl) T.b_abs (by decide +kernel) (pa_cons (pv 1) pa_nil)))
    (pss_cons (ps_while PassesOwn.never (pt_cmpR op_ne (pv 1) pe_int (nomark _))
      (pss_one (ps_par (i := 0) (j := 1) (by rfl) sc__law_shared.nd rfl rfl (by decide) rfl rfl (pa_cons (pv 1) (pa_cons (pe_op op_mod (pv 0) (pv 1)) pa_nil)) (by rfl))))
    (pss_one (ps_ret (pv 0)))))), ?_⟩
  refine sq (st_set c (ev_cb (ea_cons (ev_var rfl) ea_nil) rc_abs) (fun F H σ c _ => ?_))
  refine sq (st_set c (ev_cb (ea_cons (ev_var rfl) ea_nil) rc_abs) (fun F H σ c _ => ?_))
  refine sq (st_while (fun i : Int × Int => [some (I i.1), some (I i.2)]) (fun _ => []) (fun i => 0 ≤ i.1 ∧ 0 ≤ i.2 ∧ Int.gcd i.1 i.2 = Int.gcd x y) (fun i => i.2.toNat) (fun i => !decide (i.2 = 0)) ((x.natAbs : Int), (y.natAbs : Int)) c ⟨Int.natCast_nonneg _, Int.natCast_nonneg _, ?_⟩ (fun i _ => et_test (ev_neI (ev_var rfl) ev_c)) ?_ ?_)
  · rfl
  · rintro ⟨u, v⟩ F H σ N ⟨h1, h2, h3⟩ hb c hN
    dsimp only at h1 h2 h3
    have hv' : ¬ v = 0 := by simpa using hb
    have hv : 0 < v := by omega
    refine st_par c (ea_cons (ev_var rfl) (ea_cons (ev_I (ev_var rfl) (ev_var rfl) hv) ea_nil)) (fun F H σ c _ => ?_)
    have hm := Int.emod_nonneg u (Int.ne_of_gt hv)
    have hm2 := Int.emod_lt_of_pos u hv
    exact hN (v, u % v) F H σ ⟨h2, hm, (gcd_turn h1 hv).trans h3⟩ (by show (u % v).toNat < v.toNat; omega) c
  · rintro ⟨u, v⟩ F H σ ⟨h1, h2, h3⟩ hb c
    dsimp only at h1 h2 h3
    have hv0 : v = 0 := by simpa using hb
    subst hv0
    refine st_ret c (ev_var rfl) (fun v F' H' c _ r => hq v F' H' c.ext c.sub ?_)
    have z : (Int.gcd x y : Int) = u := by rw [← h3]; simp; omega
    show v = V.int (Int.gcd x y : Int)
    rw [z]; exact r
def sp__law_fraction (K : PySem.W.Frag) (C : Str → Addr) : Sp := CtF (fun a : Int × Int => [I a.1, I a.2]) (fun _ => True) (fun _ => Sq K 140)
theorem ok__law_fraction (T : G K mg C) (D__law_shared : Dn P w K mg base 1 "_law_shared" ["_law_one", "_law_other"] (sp__law_shared K C)) : Dn P w K mg base 2 "_law_fraction" ["_law_up", "_law_down"] (sp__law_fraction K C) := by
  refine T.d__law_fraction.ok sc__law_fraction (by first | exact CtF.len (fun _ => rfl) | exact CtE.len (fun _ => rfl) | exact sp__law_fraction_len) (fun f cdv A outer s H vs Q E hr h => ?_)
  obtain ⟨⟨x, y⟩, F, sFH, ha, hp, hq⟩ := h
  have c := ctx_start (N := ["_law_up", "_law_down", "_law_top", "_law_bottom", "_law_shared_here"]) sFH ha
  refine ⟨_, (pss_cons (ps_set (i := 2) sc__law_fraction.nd rfl (by first | exact Or.inl rfl | exact Or.inr rfl) (pe_op op_sub (pe_op op_mod (pv 0) (pe_op op_add (pe_op op_mulW pe_int (pe_op op_pow pe_int pe_int)) pe_int)) (pe_op op_pow pe_int pe_int)))
    (pss_cons (ps_set (i := 3) sc__law_fraction.nd rfl (by first | exact Or.inl rfl | exact Or.inr rfl) (pe_op op_add pe_int (pe_op op_mod (pe_op op_fdivW (pv 1) pe_int) (pe_op op_pow pe_int pe_int))))
    (pss_cut (ps_if (pt_cmpR op_eq (pe_op op_mod (pv 1) pe_int) pe_int (nomark _))
      (pss_cons (ps_set (i := 2) sc__law_fraction.nd rfl (by first | exact Or.inl rfl | exact Or.inr rfl) (pe_op op_sub (pe_op op_mod (pv 0) pe_int) pe_int))
      (pss_one (ps_set (i := 3) sc__law_fraction.nd rfl (by first | exact Or.inl rfl | exact Or.inr rfl) (pe_op op_add pe_int (pe_op op_mod (pe_op op_fdivW (pv 1) pe_int) pe_int)))))
      pss_nil)
    (pss_cut (ps_if (pt_cmpR op_eq (pe_op op_mod (pv 1) pe_int) pe_int (nomark _))
      (pss_cons (ps_set (i := 3) sc__law_fraction.nd rfl (by first | exact Or.inl rfl | exact Or.inr rfl) (pe_op op_add pe_int (pe_op op_mod (pe_op op_fdivW (pv 1) pe_int) (pe_op op_pow pe_int pe_int))))
      (pss_one (ps_set (i := 2) sc__law_fraction.nd rfl (by first | exact Or.inl rfl | exact Or.inr rfl) (pe_op op_sub (pe_op op_add (pe_op op_mulW (pe_op op_sub (pe_op op_mod (pv 0) (pe_op op_add (pe_op op_mulW pe_int (pe_op op_pow pe_int pe_int)) pe_int)) (pe_op op_pow pe_int pe_int)) (pv 3)) (pe_op op_mod (pv 0) pe_int)) pe_int))))
      pss_nil)
    (pss_cons (ps_set (i := 4) sc__law_fraction.nd rfl (by first | exact Or.inl rfl | exact Or.inr rfl) (pe_d D__law_shared (hr.mono (by decide)) (by rfl) (pa_cons (pv 2) (pa_cons (pv 3) pa_nil))))
    (pss_one (ps_ret (pe_tup (pa_cons (pe_op op_fdivW (pv 2) (pv 4)) (pa_cons (pe_op op_fdivW (pv 3) (pv 4)) pa_nil)))))))))), ?_⟩
  refine sq (st_set c (ev_I0 (ev_I (ev_var rfl) (ev_k (n := 200000000000000000000000000000000000001) (ev_I0 (ev_I ev_c (ev_I ev_c ev_c (by walk_at "y")) (by walk_at "y")) ev_c) (by decide +kernel)) (by walk_at "y")) (ev_k (n := 100000000000000000000000000000000000000) (ev_I ev_c ev_c (by walk_at "y")) (by decide +kernel))) (fun F H σ c _ => ?_))
  refine sq (st_set c (ev_I0 ev_c (ev_I (ev_I (ev_var rfl) ev_c (by walk_at "y")) (ev_k (n := 100000000000000000000000000000000000000) (ev_I ev_c ev_c (by walk_at "y")) (by decide +kernel)) (by walk_at "y"))) (fun F H σ c _ => ?_))
  refine cut c (fun i : Int × Int => [some (I x), some (I y), some (I i.1), some (I i.2), none]) (fun _ => []) (fun i => Bt 140 i.1 ∧ Bt 140 i.2 ∧ 0 < i.2) (fun N hN => ?_) ?_
  · refine st_if c (et_test (ev_eqI (ev_I (ev_var rfl) ev_c (by walk_at "y")) ev_c)) (fun hb F H c _ => ?_) (fun hb F H c _ => ?_)
    · refine sq (st_set c (ev_I0 (ev_I (ev_var rfl) ev_c (by walk_at "y")) ev_c) (fun F H σ c _ => ?_))
      refine st_set c (ev_I0 ev_c (ev_I (ev_I (ev_var rfl) ev_c (by walk_at "y")) ev_c (by walk_at "y"))) (fun F H σ c _ => ?_)
      exact hN (_, _) F H σ ⟨by unfold Bt; dsimp only; omega, by unfold Bt; dsimp only; omega, by dsimp only; omega⟩ c
    · exact nxt (hN (_, _) F H _ ⟨by unfold Bt; dsimp only; omega, by unfold Bt; dsimp only; omega, by dsimp only; omega⟩ c)
  rintro ⟨t0, b0⟩ F H σ ⟨h1, h2, h3⟩ c
  refine cut c (fun i : Int × Int => [some (I x), some (I y), some (I i.1), some (I i.2), none]) (fun _ => []) (fun i => Bt 140 i.1 ∧ Bt 140 i.2 ∧ 0 < i.2) (fun N hN => ?_) ?_
  · refine st_if c (et_test (ev_eqI (ev_I (ev_var rfl) ev_c (by walk_at "y")) ev_c)) (fun hb F H c _ => ?_) (fun hb F H c _ => ?_)
    · refine sq (st_set c (ev_I0 ev_c (ev_I (ev_I (ev_var rfl) ev_c (by walk_at "y")) (ev_k (n := 1000000000000000000) (ev_I ev_c ev_c (by walk_at "y")) (by decide +kernel)) (by walk_at "y"))) (fun F H σ c _ => ?_))
      have b1 : Bt 62 (1 + y / 3 % 1000000000000000000) := by unfold Bt; omega
      have b2 : Bt 62 (x % 2000000000000000001 - 1000000000000000000) := by unfold Bt; omega
      have b3 : Bt 125 (x % 3) := by unfold Bt; omega
      refine st_set c (ev_I0 (ev_I0 (ev_I (ev_I0 (ev_I (ev_var rfl) (ev_k (n := 2000000000000000001) (ev_I0 (ev_I ev_c (ev_I ev_c ev_c (by walk_at "y")) (by walk_at "y")) ev_c) (by decide +kernel)) (by walk_at "y")) (ev_k (n := 1000000000000000000) (ev_I ev_c ev_c (by walk_at "y")) (by decide +kernel))) (ev_var rfl) (by exact b2.mulW b1)) (ev_I (ev_var rfl) ev_c (by walk_at "y"))) ev_c) (fun F H σ c _ => ?_)
      exact hN (_, _) F H σ ⟨(((((b2.mul b1).up (by decide)).add b3).up (by decide : 126 ≤ 130)).sub (by unfold Bt; decide)).up (by decide), b1.up (by decide), by dsimp only; omega⟩ c
    · exact nxt (hN (t0, b0) F H _ ⟨h1, h2, h3⟩ c)
  rintro ⟨t, b⟩ F H σ ⟨h1, h2, h3⟩ c
  dsimp only at h1 h2 h3
  have b0 : b ≠ 0 := by omega
  refine sq (st_set c (ev_call (_, _) (ea_cons (ev_var rfl) (ea_cons (ev_var rfl) ea_nil)) (by walk_at "y")) (fun F H σ c _ => ?_))
  have g1 := gcd_pos (x := t) b0
  have g2 := gcd_bt (x := t) h2 b0
  refine st_ret c (ev_fq (ev_fr (ea_cons (ev_I (ev_var rfl) (ev_var rfl) (by exact g2.divW g1)) (ea_cons (ev_I (ev_var rfl) (ev_var rfl) (by exact g2.divW g1)) ea_nil))) (fr_of t b h3)) (fun v F' H' c _ r => hq v F' H' c.ext c.sub (sq_of r ⟨bt_num h1 h3, bt_den h2 h3⟩))
def sp_law (K : PySem.W.Frag) (C : Str → Addr) : Sp := LawSp K
theorem floor_bt {n : Nat} {r : Rat} (h : Bq n r) : Bt n r.floor := by
  rw [Rat.floor_def]
  exact h.1.le (Int.natAbs_ediv_le_natAbs _ _)
theorem floor_two (x : Rat) : x.floor * x.den ≤ x.num ∧ x.num < (x.floor + 1) * x.den := by
  rw [Rat.floor_def]
  have d := r_den1 x
  have h0 := Int.emod_nonneg x.num (Int.ne_of_gt d)
  have h1 := Int.emod_lt_of_pos x.num d
  have e := Int.mul_ediv_add_emod x.num x.den
  rw [Int.add_mul, Int.mul_comm (x.num / x.den)]
  omega
theorem ceil_two (x : Rat) : (x.ceil - 1) * x.den < x.num ∧ x.num ≤ x.ceil * x.den := by
  rw [← ceil_of]
  have d := r_den1 x
  have h0 := Int.emod_nonneg x.num (Int.ne_of_gt d)
  have h1 := Int.emod_lt_of_pos x.num d
  have e := Int.mul_ediv_add_emod x.num x.den
  split
  · rw [Int.sub_mul, Int.add_mul, Int.mul_comm (x.num / x.den)]
    omega
  · rw [Int.sub_mul, Int.mul_comm (x.num / x.den)]
    omega
theorem ceil_bt {n : Nat} {r : Rat} (h : Bq (n + 1) r) : Bt (n + 2) r.ceil := by
  rw [← ceil_of]
  have h1 : Bt (n + 1) (r.num / r.den) := h.1.le (Int.natAbs_ediv_le_natAbs _ _)
  split
  · exact h1.add (bt_one n)
  · exact h1.up (Nat.le_succ _)
theorem ok_law (T : G K mg C) (D__law_cell_at : Dn P w K mg base 1 "_law_cell_at" ["_law_script", "_law_k"] (sp__law_cell_at K C)) (D__law_fraction : Dn P w K mg base 2 "_law_fraction" ["_law_up", "_law_down"] (sp__law_fraction K C)) (D_whole_below : Dn P w K mg base 1 "whole_below" ["one"] (sp_whole_below K C)) (D_whole_above : Dn P w K mg base 1 "whole_above" ["one"] (sp_whole_above K C)) (D__law_whole : Dn P w K mg base 1 "_law_whole" ["_law_found"] (sp__law_whole K C)) : Dn P w K mg base 3 "law" ["_law_script"] (sp_law K C) := by
  refine T.d_law.ok sc_law (by first | exact CtF.len (fun _ => rfl) | exact CtE.len (fun _ => rfl) | exact sp_law_len) (fun f cdv A outer s H vs Q E hr h => ?_)
  obtain ⟨ns, F, sFH, ha, hp, hq⟩ := h
  have c := ctx_start (N := ["_law_script", "_law_one", "_law_below", "_law_above"]) sFH ha
  refine ⟨_, (pss_cons (ps_set (i := 1) sc_law.nd rfl (by first | exact Or.inl rfl | exact Or.inr rfl) (pe_d D__law_fraction (hr.mono (by decide)) (by rfl) (pa_cons (pe_d D__law_cell_at (hr.mono (by decide)) (by rfl) (pa_cons (pv 0) (pa_cons pe_int pa_nil))) (pa_cons (pe_d D__law_cell_at (hr.mono (by decide)) (by rfl) (pa_cons (pv 0) (pa_cons pe_int pa_nil))) pa_nil))))
    (pss_cons (ps_set (i := 2) sc_law.nd rfl (by first | exact Or.inl rfl | exact Or.inr rfl) (pe_d D_whole_below (hr.mono (by decide)) (by rfl) (pa_cons (pv 1) pa_nil)))
    (pss_cons (ps_set (i := 3) sc_law.nd rfl (by first | exact Or.inl rfl | exact Or.inr rfl) (pe_d D_whole_above (hr.mono (by decide)) (by rfl) (pa_cons (pv 1) pa_nil)))
    (pss_cons (ps_if (PW.pt (pw_or (pt_not (pt_val (pe_d D__law_whole (hr.mono (by decide)) (by rfl) (pa_cons (pv 2) pa_nil)))) (pw_or1 (pt_not (pt_val (pe_d D__law_whole (hr.mono (by decide)) (by rfl) (pa_cons (pv 3) pa_nil)))))))
      (pss_one (ps_ret pe_bl))
      pss_nil)
    (pss_cons (ps_if (pt_not (pt_chain op_le op_lt (pe_op op_mulW (pv 2) (pe_ix ix_tup (pv 1) pe_int (fun _ _ => rfl))) (pe_ix ix_tup (pv 1) pe_int (fun _ _ => rfl)) (pe_op op_mulW (pe_op op_add (pv 2) pe_int) (pe_ix ix_tup (pv 1) pe_int (fun _ _ => rfl)))))
      (pss_one (ps_ret pe_bl))
      pss_nil)
    (pss_one (ps_ret (pe_chain op_lt op_le (pe_op op_mulW (pe_op op_sub (pv 3) pe_int) (pe_ix ix_tup (pv 1) pe_int (fun _ _ => rfl))) (pe_ix ix_tup (pv 1) pe_int (fun _ _ => rfl)) (pe_op op_mulW (pv 3) (pe_ix ix_tup (pv 1) pe_int (fun _ _ => rfl))))))))))), ?_⟩
  refine sq (st_set c (ev_call (_, _) (ea_cons (ev_call (_, _) (ea_cons (ev_var rfl) (ea_cons ev_c ea_nil)) (by walk_at "y")) (ea_cons (ev_call (_, _) (ea_cons (ev_var rfl) (ea_cons ev_c ea_nil)) (by walk_at "y")) ea_nil)) (by walk_at "y")) (fun F H σ c _ => ?_))
  obtain ⟨x, hx, c⟩ := c.opn 1 rfl
  refine sq (st_set c (ev_call (_) (ea_cons (ev_var rfl) ea_nil) (by exact hx.sz)) (fun F H σ c _ => ?_))
  refine sq (st_set c (ev_call (_) (ea_cons (ev_var rfl) ea_nil) (by exact hx.sz)) (fun F H σ c _ => ?_))
  refine sq (st_if c (et_or (et_not (et_B (ev_call (_) (ea_cons (ev_var rfl) ea_nil) (by walk_at "y")))) (fun hb => (et_not (et_B (ev_call (_) (ea_cons (ev_var rfl) ea_nil) (by walk_at "y")))))) (fun hb F H c _ => ?_) (fun hb F H c _ => ?_))
  · cases hb
  have b1 := floor_bt hx
  have b2 := ceil_bt (n := 139) hx
  have f := floor_two x
  have g := ceil_two x
  refine nxt ?_
  refine sq (st_if c (et_not (et_chain (ev_I (ev_var rfl) (ev_ixT (K := K) (ev_var rfl) ev_c rfl) (by exact b1.mulW hx.2)) (ev_ixT (K := K) (ev_var rfl) ev_c rfl) (ev_I (ev_I0 (ev_var rfl) ev_c) (ev_ixT (K := K) (ev_var rfl) ev_c rfl) (by exact (b1.add (bt_one 139)).mulW hx.2)))) (fun hb F H c _ => ?_) (fun hb F H c _ => ?_))
  · exfalso
    simp [f.1, f.2] at hb
  refine nxt ?_
  refine st_ret c (ev_chain (ev_I (ev_I0 (ev_var rfl) ev_c) (ev_ixT (K := K) (ev_var rfl) ev_c rfl) (by exact (b2.sub (bt_one 140)).mulW hx.2)) (ev_ixT (K := K) (ev_var rfl) ev_c rfl) (ev_I (ev_var rfl) (ev_ixT (K := K) (ev_var rfl) ev_c rfl) (by exact b2.mulW hx.2))) (fun v F' H' c _ r => hq v F' H' c.ext c.sub ?_)
  rw [show v = V.bl _ from r]
  show V.bl _ = V.bl true
  simp [g.1, g.2]
end
/-! the end -/
theorem all_mk {l : PySem.W.OpenLaw} {w : World} {K : PySem.W.Frag} {h : Heap} {mg : Str → Option Value} {fa : Addr} (X : K.In h) (G0 : h.Ns mainGlobals mg) (hfa : mg "law" = some (.ref fa)) {f_whole_below : Addr} {od0 an0 : Option Addr} {sl0 : Array (Option Value)} {oc0 kV0 dc0 pm0 cd0 ct0 : Value} {f_whole_above : Addr} {od1 an1 : Option Addr} {sl1 : Array (Option Value)} {oc1 kV1 dc1 pm1 cd1 ct1 : Value} {f__law_cell_at : Addr} {od2 an2 : Option Addr} {sl2 : Array (Option Value)} {oc2 kV2 dc2 pm2 cd2 ct2 : Value} {f__law_whole : Addr} {od3 an3 : Option Addr} {sl3 : Array (Option Value)} {oc3 kV3 dc3 pm3 cd3 ct3 : Value} {f__law_shared : Addr} {od4 an4 : Option Addr} {sl4 : Array (Option Value)} {oc4 kV4 dc4 pm4 cd4 ct4 : Value} {f__law_fraction : Addr} {od5 an5 : Option Addr} {sl5 : Array (Option Value)} {oc5 kV5 dc5 pm5 cd5 ct5 : Value} {f_law : Addr} {od6 an6 : Option Addr} {sl6 : Array (Option Value)} {oc6 kV6 dc6 pm6 cd6 ct6 : Value}
    (z_abs : PySem.W.nsIn K mainGlobals "abs" = some none)
    (z_bool : PySem.W.nsIn K mainGlobals "bool" = some none)
    (z_divmod : PySem.W.nsIn K mainGlobals "divmod" = some none)
    (z_int : PySem.W.nsIn K mainGlobals "int" = some none)
    (z_isinstance : PySem.W.nsIn K mainGlobals "isinstance" = some none)
    (z_len : PySem.W.nsIn K mainGlobals "len" = some none)
    (a_whole_below : PySem.W.nsIn K mainGlobals "whole_below" = some (some (.ref f_whole_below))) (l_whole_below : K.lookup f_whole_below = some ⟨oc0, od0, .func (PySem.W.fnOf "whole_below" "whole_below" (defArgs s_whole_below) (defBody s_whole_below) (defScope s_whole_below) .none kV0 dc0 pm0 an0 cd0 ct0), sl0⟩) (c_whole_below : PySem.W.codeIn K cd0 "whole_below" = true) (k_whole_below : PySem.W.keepIn K (.ref f_whole_below) = true)
    (a_whole_above : PySem.W.nsIn K mainGlobals "whole_above" = some (some (.ref f_whole_above))) (l_whole_above : K.lookup f_whole_above = some ⟨oc1, od1, .func (PySem.W.fnOf "whole_above" "whole_above" (defArgs s_whole_above) (defBody s_whole_above) (defScope s_whole_above) .none kV1 dc1 pm1 an1 cd1 ct1), sl1⟩) (c_whole_above : PySem.W.codeIn K cd1 "whole_above" = true) (k_whole_above : PySem.W.keepIn K (.ref f_whole_above) = true)
    (a__law_cell_at : PySem.W.nsIn K mainGlobals "_law_cell_at" = some (some (.ref f__law_cell_at))) (l__law_cell_at : K.lookup f__law_cell_at = some ⟨oc2, od2, .func (PySem.W.fnOf "_law_cell_at" "_law_cell_at" (defArgs s__law_cell_at) (defBody s__law_cell_at) (defScope s__law_cell_at) .none kV2 dc2 pm2 an2 cd2 ct2), sl2⟩) (c__law_cell_at : PySem.W.codeIn K cd2 "_law_cell_at" = true) (k__law_cell_at : PySem.W.keepIn K (.ref f__law_cell_at) = true)
    (a__law_whole : PySem.W.nsIn K mainGlobals "_law_whole" = some (some (.ref f__law_whole))) (l__law_whole : K.lookup f__law_whole = some ⟨oc3, od3, .func (PySem.W.fnOf "_law_whole" "_law_whole" (defArgs s__law_whole) (defBody s__law_whole) (defScope s__law_whole) .none kV3 dc3 pm3 an3 cd3 ct3), sl3⟩) (c__law_whole : PySem.W.codeIn K cd3 "_law_whole" = true) (k__law_whole : PySem.W.keepIn K (.ref f__law_whole) = true)
    (a__law_shared : PySem.W.nsIn K mainGlobals "_law_shared" = some (some (.ref f__law_shared))) (l__law_shared : K.lookup f__law_shared = some ⟨oc4, od4, .func (PySem.W.fnOf "_law_shared" "_law_shared" (defArgs s__law_shared) (defBody s__law_shared) (defScope s__law_shared) .none kV4 dc4 pm4 an4 cd4 ct4), sl4⟩) (c__law_shared : PySem.W.codeIn K cd4 "_law_shared" = true) (k__law_shared : PySem.W.keepIn K (.ref f__law_shared) = true)
    (a__law_fraction : PySem.W.nsIn K mainGlobals "_law_fraction" = some (some (.ref f__law_fraction))) (l__law_fraction : K.lookup f__law_fraction = some ⟨oc5, od5, .func (PySem.W.fnOf "_law_fraction" "_law_fraction" (defArgs s__law_fraction) (defBody s__law_fraction) (defScope s__law_fraction) .none kV5 dc5 pm5 an5 cd5 ct5), sl5⟩) (c__law_fraction : PySem.W.codeIn K cd5 "_law_fraction" = true) (k__law_fraction : PySem.W.keepIn K (.ref f__law_fraction) = true)
    (a_law : PySem.W.nsIn K mainGlobals "law" = some (some (.ref f_law))) (l_law : K.lookup f_law = some ⟨oc6, od6, .func (PySem.W.fnOf "law" "law" (defArgs s_law) (defBody s_law) (defScope s_law) .none kV6 dc6 pm6 an6 cd6 ct6), sl6⟩) (c_law : PySem.W.codeIn K cd6 "law" = true) (k_law : PySem.W.keepIn K (.ref f_law) = true) :
    ∃ fd : FuncData, (∀ (s : Shared) (v : Value), BindsTo s fd ⟨[v], []⟩ [("_law_script", v)]) ∧ ∀ base : Heap, K.In base → base.Ns mainGlobals mg → FnOk l.prog w K mg base (L2.CX l.prog w) 3 fa fd ["_law_script"] (LawSp K) := by
  have e := hfa.symm.trans (PySem.W.mg_of X G0 a_law)
  cases e
  have T : G K mg (fun x => 0) := { b_abs := PySem.W.mg_none_of X G0 z_abs, b_bool := PySem.W.mg_none_of X G0 z_bool, b_divmod := PySem.W.mg_none_of X G0 z_divmod, b_int := PySem.W.mg_none_of X G0 z_int, b_isinstance := PySem.W.mg_none_of X G0 z_isinstance, b_len := PySem.W.mg_none_of X G0 z_len, d_whole_below := tx_mk X G0 a_whole_below l_whole_below c_whole_below k_whole_below (fun _ _ _ _ _ _ us hl => match us, hl with | [_], _ => rfl), d_whole_above := tx_mk X G0 a_whole_above l_whole_above c_whole_above k_whole_above (fun _ _ _ _ _ _ us hl => match us, hl with | [_], _ => rfl), d__law_cell_at := tx_mk X G0 a__law_cell_at l__law_cell_at c__law_cell_at k__law_cell_at (fun _ _ _ _ _ _ us hl => match us, hl with | [_, _], _ => rfl), d__law_whole := tx_mk X G0 a__law_whole l__law_whole c__law_whole k__law_whole (fun _ _ _ _ _ _ us hl => match us, hl with | [_], _ => rfl), d__law_shared := tx_mk X G0 a__law_shared l__law_shared c__law_shared k__law_shared (fun _ _ _ _ _ _ us hl => match us, hl with | [_, _], _ => rfl), d__law_fraction := tx_mk X G0 a__law_fraction l__law_fraction c__law_fraction k__law_fraction (fun _ _ _ _ _ _ us hl => match us, hl with | [_, _], _ => rfl), d_law := tx_mk X G0 a_law l_law c_law k_law (fun _ _ _ _ _ _ us hl => match us, hl with | [_], _ => rfl) }
  refine ⟨PySem.W.fnOf "law" "law" (defArgs s_law) (defBody s_law) (defScope s_law) .none kV6 dc6 pm6 an6 cd6 ct6, fun s v => .of_eq rfl, fun base _ _ => ?_⟩
  have D_whole_below := ok_whole_below (P := l.prog) (w := w) (base := base) T 
  have D_whole_above := ok_whole_above (P := l.prog) (w := w) (base := base) T 
  have D__law_cell_at := ok__law_cell_at (P := l.prog) (w := w) (base := base) T 
  have D__law_whole := ok__law_whole (P := l.prog) (w := w) (base := base) T 
  have D__law_shared := ok__law_shared (P := l.prog) (w := w) (base := base) T 
  have D__law_fraction := ok__law_fraction (P := l.prog) (w := w) (base := base) T D__law_shared
  have D_law := ok_law (P := l.prog) (w := w) (base := base) T D__law_cell_at D__law_fraction D_whole_below D_whole_above D__law_whole
  exact law_end D_law (PySem.W.mg_of X G0 a_law) l_law
theorem walk {l : PySem.W.OpenLaw} {q : Program} {loose : List Str} {XP : (Str → Option Value) → Heap → Prop} {YP : World → Heap → Prop} {d : DefRec} {K : Params → PySem.W.Frag} (hn : l.most = some 63) (hdf : d.params.defaults = [])
    (hY : ∀ (w : World) (h : Heap), YP w h → (K w.params).In h)
    (F : ∀ (w : World) (mg : Str → Option Value) (fa : Addr) (h : Heap), (K w.params).In h → h.Ns mainGlobals mg → mg d.name = some (.ref fa) →
      ∃ fd : FuncData, (∀ (s : Shared) (u : Value), BindsTo s fd ⟨[u], []⟩ [("_law_script", u)]) ∧ ∀ base : Heap, (K w.params).In base → base.Ns mainGlobals mg → FnOk l.prog w (K w.params) mg base (L2.CX l.prog w) 3 fa fd ["_law_script"] (LawSp (K w.params))) :
    PySem.W.WalkO q loose XP YP l.row.toRowW d [] (fun f vs => PySem.call f vs) :=
  L2.walk_of (n := 63) (k := 3) (x := "_law_script") (CX := fun w => L2.CX l.prog w) (sp := fun w => LawSp (K w.params)) hn (by decide) hdf ⟨rfl, by decide, by decide⟩ hY F (fun _ H a ns hl _ hS => law_start hl hS) fun _ _ _ _ _ z => by
    obtain ⟨_, _, _, _, _, _, _, _, _, _, _, _, z⟩ := z
    exact z.elim
end Y
open PySem PySem.W PyProof.Rows
set_option maxRecDepth 100000 in
set_option maxHeartbeats 0 in
theorem PySem.Challenge.cw_sharewheel_k05_whole_neighbours_holds : PySem.Challenge.rw_sharewheel_k05_whole_neighbours.Holds := by
  w_on; o_law; k_head; (case hw => w_witness2)
  k_fill
  refine Y.walk (l := PySem.Challenge.rw_sharewheel_k05_whole_neighbours) rfl rfl (fun w h Y => PySem.W.kIn_of Y) ?F
  case F =>
    intro w mg fa h KX G hmg
    refine' Y.all_mk KX G hmg ?z_abs ?z_bool ?z_divmod ?z_int ?z_isinstance ?z_len ?a_whole_below ?l_whole_below ?c_whole_below ?k_whole_below ?a_whole_above ?l_whole_above ?c_whole_above ?k_whole_above ?a__law_cell_at ?l__law_cell_at ?c__law_cell_at ?k__law_cell_at ?a__law_whole ?l__law_whole ?c__law_whole ?k__law_whole ?a__law_shared ?l__law_shared ?c__law_shared ?k__law_shared ?a__law_fraction ?l__law_fraction ?c__law_fraction ?k__law_fraction ?a_law ?l_law ?c_law ?k_law
    (case z_abs => k_is)
    (case z_bool => k_is)
    (case z_divmod => k_is)
    (case z_int => k_is)
    (case z_isinstance => k_is)
    (case z_len => k_is)
    (case a_whole_below => k_is)
    (case l_whole_below => k_is)
    (case c_whole_below => k_is)
    (case k_whole_below => k_is)
    (case a_whole_above => k_is)
    (case l_whole_above => k_is)
    (case c_whole_above => k_is)
    (case k_whole_above => k_is)
    (case a__law_cell_at => k_is)
    (case l__law_cell_at => k_is)
    (case c__law_cell_at => k_is)
    (case k__law_cell_at => k_is)
    (case a__law_whole => k_is)
    (case l__law_whole => k_is)
    (case c__law_whole => k_is)
    (case k__law_whole => k_is)
    (case a__law_shared => k_is)
    (case l__law_shared => k_is)
    (case c__law_shared => k_is)
    (case k__law_shared => k_is)
    (case a__law_fraction => k_is)
    (case l__law_fraction => k_is)
    (case c__law_fraction => k_is)
    (case k__law_fraction => k_is)
    (case a_law => k_is)
    (case l_law => k_is)
    (case c_law => k_is)
    (case k_law => k_is)
#print axioms PySem.Challenge.cw_sharewheel_k05_whole_neighbours_holds


