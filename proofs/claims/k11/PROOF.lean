import PyProof.Rows.All
import Wide.All
import OpenK.AllK
import Wide.FinOn
import HandS.ForMost
import HandS.Wide
import HandS.ForExc
import HandS.IsInst
import HandS.Exc
import HandS.WordsExc
import HandS.TryOnly
import HandS.Codes
import HandS.ExcOwn
import HandS.WideBits
import HandS.Style
import HandS.Iter
import HandS.Defaults
import KE.DatumOrd
import HandS.SortKw
import HandS.ExcInit
import HandS.ExcIs
import HandS.ExcField
import HandS.More
import KE.GoesNew
import KE.GoesMore
import HandS.Dict
import HandS.Deep
import HandS.BoundDict
import PySem.Challenge.RW_sharewheel_k11_a_row_looked_over
set_option Elab.async false
set_option linter.all false
set_option maxRecDepth 100000
set_option maxHeartbeats 4000000
namespace Y
open PySem L2

/-! ## assertions: what a value is, over what never changes -/
structure As where
  p : Hp → V → Prop
  mono : ∀ {F F' : Hp} {v : V}, Same F F' → p F v → p F' v
def Cst (w : V) : As := ⟨fun _ v => v = w, fun _ h => h⟩
abbrev I (n : Int) : As := Cst (.int n)
abbrev B (b : Bool) : As := Cst (.bl b)
abbrev Rf (a : Addr) : As := Cst (.ref a)
abbrev Nn : As := Cst .non
abbrev S (x : Str) : As := Cst (.str x)
def Any : As := ⟨fun _ _ => True, fun _ h => h⟩
def All (F : Hp) : List As → List V → Prop
  | [], [] => True
  | R :: Rs, x :: xs => R.p F x ∧ All F Rs xs
  | _, _ => False
theorem All.mono {F F' : Hp} (s : Same F F') : ∀ {Rs : List As} {xs : List V}, All F Rs xs → All F' Rs xs
  | [], [], _ => trivial
  | R :: Rs, x :: xs, h => ⟨R.mono s h.1, All.mono s h.2⟩
  | [], _ :: _, h => h.elim
  | _ :: _, [], h => h.elim
theorem All.length {F : Hp} : ∀ {Rs : List As} {xs : List V}, All F Rs xs → xs.length = Rs.length
  | [], [], _ => rfl
  | R :: Rs, x :: xs, h => congrArg (· + 1) (All.length h.2)
  | [], _ :: _, h => h.elim
  | _ :: _, [], h => h.elim
theorem All.get {F : Hp} : ∀ {Rs : List As} {xs : List V} {i : Nat} {R : As}, All F Rs xs → Rs[i]? = some R → ∃ x, xs[i]? = some x ∧ R.p F x
  | [], [], i, R, _, e => by simp at e
  | R :: Rs, x :: xs, 0, R', h, e => by
    have e' : R = R' := Option.some.inj e
    subst e'; exact ⟨x, rfl, h.1⟩
  | R :: Rs, x :: xs, i + 1, R', h, e => by
    obtain ⟨y, e1, e2⟩ := All.get (i := i) h.2 (by simpa using e)
    exact ⟨y, by simpa using e1, e2⟩
  | [], _ :: _, _, _, h, _ => h.elim
  | _ :: _, [], _, _, h, _ => h.elim
theorem All.app {F : Hp} : ∀ {Rs Ss : List As} {xs ys : List V}, All F Rs xs → All F Ss ys → All F (Rs ++ Ss) (xs ++ ys)
  | [], _, [], _, _, h => h
  | R :: Rs, _, x :: xs, _, h, h' => ⟨h.1, All.app h.2 h'⟩
  | [], _, _ :: _, _, h, _ => h.elim
  | _ :: _, _, [], _, h, _ => h.elim
theorem All.of_get {F : Hp} : ∀ {Rs : List As} {xs : List V}, xs.length = Rs.length → (∀ (i : Nat) (R : As) (x : V), Rs[i]? = some R → xs[i]? = some x → R.p F x) → All F Rs xs
  | [], [], _, _ => trivial
  | R :: Rs, x :: xs, e, h => ⟨h 0 R x rfl rfl, All.of_get (by simpa using e) fun i R' x' a b => h (i + 1) R' x' (by simpa using a) (by simpa using b)⟩
  | [], _ :: _, e, _ => by simp at e
  | _ :: _, [], e, _ => by simp at e
theorem same_seqT {K : PySem.W.Frag} {F F' : Hp} {a : Addr} {xs : List V} (e : Same F F') (h : SqT K F a xs) : SqT K F' a xs := by
  rcases h with (h | ⟨o, h⟩) | h
  · exact .inl (.inl (e _ _ h))
  · exact .inl (.inr ⟨o, e _ _ h⟩)
  · exact .inr h
/-- a tuple, a list that stands still -/
def Tp (K : PySem.W.Frag) (Rs : List As) : As := ⟨fun F v => ∃ a xs, v = .ref a ∧ SqT K F a xs ∧ All F Rs xs, fun s h => by
  obtain ⟨a, xs, e, h1, h2⟩ := h; exact ⟨a, xs, e, same_seqT s h1, h2.mono s⟩⟩
def Ls (K : PySem.W.Frag) (Rs : List As) : As := ⟨fun F v => ∃ a xs, v = .ref a ∧ SqL K F a xs ∧ All F Rs xs, fun s h => by
  obtain ⟨a, xs, e, h1, h2⟩ := h; exact ⟨a, xs, e, s.seq h1, h2.mono s⟩⟩
/-- some value of a family -/
def Xs {β : Type} (P : β → Prop) (R : β → As) : As := ⟨fun F v => ∃ b, P b ∧ (R b).p F v, fun s h => by
  obtain ⟨b, h1, h2⟩ := h; exact ⟨b, h1, (R b).mono s h2⟩⟩

/-! ## the slots -/
abbrev Gm := List (Option As)
def Sat (F : Hp) : Gm → St → Prop
  | [], [] => True
  | none :: Γ, _ :: σ => Sat F Γ σ
  | some R :: Γ, s :: σ => (∃ v, s = some v ∧ R.p F v) ∧ Sat F Γ σ
  | _, _ => False
theorem Sat.mono {F F' : Hp} (s : Same F F') : ∀ {Γ : Gm} {σ : St}, Sat F Γ σ → Sat F' Γ σ
  | [], [], _ => trivial
  | none :: Γ, _ :: σ, h => Sat.mono (Γ := Γ) s h
  | some R :: Γ, _ :: σ, h => by
    obtain ⟨⟨v, e, q⟩, t⟩ := h
    exact ⟨⟨v, e, R.mono s q⟩, Sat.mono s t⟩
  | [], _ :: _, h => h.elim
  | none :: _, [], h => h.elim
  | some _ :: _, [], h => h.elim
theorem Sat.get {F : Hp} : ∀ {Γ : Gm} {σ : St} {i : Nat} {R : As}, Sat F Γ σ → Γ[i]? = some (some R) → ∃ v, σ[i]? = some (some v) ∧ R.p F v
  | [], [], i, R, _, e => by simp at e
  | none :: Γ, _ :: σ, 0, R, h, e => by simp at e
  | none :: Γ, s :: σ, i + 1, R, h, e => by
    obtain ⟨v, a, b⟩ := Sat.get (Γ := Γ) (σ := σ) (i := i) (R := R) h (by simpa using e)
    exact ⟨v, by simpa using a, b⟩
  | some R :: Γ, s :: σ, 0, R', h, e => by
    obtain ⟨⟨v, e1, q⟩, t⟩ := h
    have e' : R = R' := by simpa using e
    subst e'; subst e1; exact ⟨v, rfl, q⟩
  | some R :: Γ, s :: σ, i + 1, R', h, e => by
    obtain ⟨_, t⟩ := h
    obtain ⟨v, a, b⟩ := Sat.get (Γ := Γ) (σ := σ) (i := i) (R := R') t (by simpa using e)
    exact ⟨v, by simpa using a, b⟩
  | [], _ :: _, _, _, h, _ => h.elim
  | none :: _, [], _, _, h, _ => h.elim
  | some _ :: _, [], _, _, h, _ => h.elim
theorem Sat.set {F : Hp} {R : As} {v : V} (q : R.p F v) : ∀ {Γ : Gm} {σ : St} (i : Nat), Sat F Γ σ → Sat F (Γ.set i (some R)) (σ.set i (some v))
  | [], [], _, _ => trivial
  | none :: Γ, _ :: σ, 0, h => ⟨⟨v, rfl, q⟩, h⟩
  | none :: Γ, s :: σ, i + 1, h => Sat.set q (Γ := Γ) (σ := σ) i h
  | some _ :: Γ, s :: σ, 0, h => ⟨⟨v, rfl, q⟩, h.2⟩
  | some _ :: Γ, s :: σ, i + 1, h => ⟨h.1, Sat.set q (Γ := Γ) (σ := σ) i h.2⟩
  | [], _ :: _, _, h => h.elim
  | none :: _, [], _, h => h.elim
  | some _ :: _, [], _, h => h.elim
theorem Sat.unset {F : Hp} {s : Option V} : ∀ {Γ : Gm} {σ : St} (i : Nat), Sat F Γ σ → Sat F (Γ.set i none) (σ.set i s)
  | [], [], _, _ => trivial
  | none :: Γ, _ :: σ, 0, h => h
  | none :: Γ, s :: σ, i + 1, h => Sat.unset (Γ := Γ) (σ := σ) i h
  | some _ :: Γ, s :: σ, 0, h => h.2
  | some _ :: Γ, s :: σ, i + 1, h => ⟨h.1, Sat.unset (Γ := Γ) (σ := σ) i h.2⟩
  | [], _ :: _, _, h => h.elim
  | none :: _, [], _, h => h.elim
  | some _ :: _, [], _, h => h.elim
/-- fewer things known of the slots -/
inductive Wk : Gm → Gm → Prop
  | nil : Wk [] []
  | eq {R : Option As} {Γ Γ' : Gm} : Wk Γ Γ' → Wk (R :: Γ) (R :: Γ')
  | no {R : Option As} {Γ Γ' : Gm} : Wk Γ Γ' → Wk (R :: Γ) (none :: Γ')
theorem Sat.wk {F : Hp} : ∀ {Γ Γ' : Gm} {σ : St}, Wk Γ Γ' → Sat F Γ σ → Sat F Γ' σ
  | _, _, σ, .nil, h => h
  | none :: Γ, _, s :: σ, .eq w, h => Sat.wk (σ := σ) w h
  | some R :: Γ, _, s :: σ, .eq w, h => ⟨h.1, Sat.wk w h.2⟩
  | none :: Γ, _, s :: σ, .no w, h => Sat.wk (σ := σ) w h
  | some R :: Γ, _, s :: σ, .no w, h => Sat.wk (σ := σ) w h.2
  | none :: _, _, [], _, h => h.elim
  | some _ :: _, _, [], _, h => h.elim
theorem Wk.refl : ∀ Γ : Gm, Wk Γ Γ
  | [] => .nil
  | _ :: Γ => .eq (Wk.refl Γ)
theorem sat_start {F : Hp} : ∀ {Rs : List As} {vs : List V} (n : Nat), All F Rs vs → Sat F (Rs.map some ++ List.replicate n none) (vs.map some ++ List.replicate n none)
  | [], [], n, _ => by
    show Sat F (List.replicate n none) (List.replicate n none)
    induction n with
    | zero => trivial
    | succ n ih => exact ih
  | R :: Rs, x :: xs, n, h => ⟨⟨x, rfl, h.1⟩, sat_start n h.2⟩
  | [], _ :: _, _, h => h.elim
  | _ :: _, [], _, h => h.elim

/-! ## what is owned -/
structure OA where
  p : Hp → HO → Prop
  mono : ∀ {F F' : Hp} {o : HO}, Same F F' → p F o → p F' o
def oL (Rs : List As) : OA := ⟨fun F o => ∃ xs, o = .lst xs ∧ All F Rs xs, fun s h => by
  obtain ⟨xs, e, q⟩ := h; exact ⟨xs, e, q.mono s⟩⟩
abbrev Om := List (Addr × OA)
def Own (F H : Hp) (Ω : Om) : Prop := ∀ x, x ∈ Ω → F x.1 = none ∧ ∃ o, H x.1 = some o ∧ x.2.p F o

structure Ext (foot : List Addr) (F0 H0 F H : Hp) : Prop where
  fe : Same F0 F
  fr : ∀ a o, H0 a = some o → a ∉ foot → H a = some o
  dm : ∀ a, H a = none → H0 a = none
  nw : ∀ a, H0 a ≠ none → F0 a = none → F a = none
theorem Ext.refl (ft : List Addr) (F H : Hp) : Ext ft F H F H := ⟨Same.refl F, fun _ _ h _ => h, fun _ h => h, fun _ _ h => h⟩
theorem Ext.trans {ft : List Addr} {F0 H0 F1 H1 F2 H2 : Hp} (a : Ext ft F0 H0 F1 H1) (b : Ext ft F1 H1 F2 H2) : Ext ft F0 H0 F2 H2 :=
  ⟨a.fe.trans b.fe, fun x o h n => b.fr x o (a.fr x o h n) n, fun x h => a.dm x (b.dm x h), fun x h f => b.nw x (fun z => h (a.dm x z)) (a.nw x h f)⟩
theorem Ext.wid {ft ft' : List Addr} {F0 H0 F1 H1 : Hp} (a : Ext ft F0 H0 F1 H1) (h : ∀ x, x ∈ ft → x ∈ ft') : Ext ft' F0 H0 F1 H1 :=
  ⟨a.fe, fun x o q n => a.fr x o q fun z => n (h x z), a.dm, a.nw⟩
/-- a step that touches only what was not there at the start, or the footprint -/
theorem Ext.transL {ft ft' : List Addr} {F0 H0 F1 H1 F2 H2 : Hp} (a : Ext ft F0 H0 F1 H1) (b : Ext ft' F1 H1 F2 H2) (h : ∀ x, x ∈ ft' → x ∈ ft ∨ H0 x = none) : Ext ft F0 H0 F2 H2 :=
  ⟨a.fe.trans b.fe, fun x o q n => b.fr x o (a.fr x o q n) fun z => (h x z).elim n (fun e => by rw [e] at q; cases q),
    fun x h => a.dm x (b.dm x h), fun x h f => b.nw x (fun z => h (a.dm x z)) (a.nw x h f)⟩
structure Bs where
  F : Hp
  H : Hp
  ft : List Addr
  G : Hp
  ro : List Addr
def Bs.pin (Z : Bs) (G : Hp) : Bs := ⟨Z.F, Z.H, Z.ft, G, Z.ro⟩
structure Ctx (Z : Bs) (F H : Hp) (σ : St) (Γ : Gm) (Ω : Om) : Prop where
  sat : Sat F Γ σ
  sub : Same F H
  own : Own F H Ω
  nd : (Ω.map (·.1)).Nodup
  loc : ∀ x, x ∈ Ω → x.1 ∈ Z.ft ∨ Z.H x.1 = none ∨ x.1 ∈ Z.ro
  ext : Ext Z.ft Z.F Z.H F H
  pin : Same Z.G F
section
variable {Z : Bs} {F H F' H' : Hp} {σ σ' : St} {Γ Γ' : Gm} {Ω Ω' : Om} {K : PySem.W.Frag}
theorem Own.ext {ft : List Addr} (e : Ext ft F H F' H') (h : Own F H Ω) (d : ∀ x, x ∈ Ω → x.1 ∉ ft) : Own F' H' Ω := fun x hx => by
  obtain ⟨h1, o, h2, h3⟩ := h x hx
  exact ⟨e.nw _ (by rw [h2]; exact fun z => by cases z) h1, o, e.fr _ _ h2 (d x hx), x.2.mono e.fe h3⟩
theorem Ctx.step (c : Ctx Z F H σ Γ Ω) (e : Ext [] F H F' H') (s : Same F' H') : Ctx Z F' H' σ Γ Ω :=
  ⟨c.sat.mono e.fe, s, c.own.ext e (fun _ _ => List.not_mem_nil), c.nd, c.loc, c.ext.trans (e.wid fun _ h => absurd h List.not_mem_nil), c.pin.trans e.fe⟩
theorem Ctx.wk (c : Ctx Z F H σ Γ Ω) (w : Wk Γ Γ') : Ctx Z F H σ Γ' Ω := ⟨c.sat.wk w, c.sub, c.own, c.nd, c.loc, c.ext, c.pin⟩
theorem Ctx.set (c : Ctx Z F H σ Γ Ω) {R : As} {v : V} (i : Nat) (q : R.p F v) : Ctx Z F H (σ.set i (some v)) (Γ.set i (some R)) Ω := ⟨c.sat.set q i, c.sub, c.own, c.nd, c.loc, c.ext, c.pin⟩
theorem Ctx.topin (c : Ctx Z F H σ Γ Ω) {G : Hp} (h : Same G F) : Ctx (Z.pin G) F H σ Γ Ω := ⟨c.sat, c.sub, c.own, c.nd, c.loc, c.ext, h⟩
theorem Ctx.unpin {G : Hp} (c : Ctx (Z.pin G) F H σ Γ Ω) (h : Same Z.G G) : Ctx Z F H σ Γ Ω := ⟨c.sat, c.sub, c.own, c.nd, c.loc, c.ext, h.trans c.pin⟩
/-- a new thing that never changes -/
theorem Ext.new {p : Addr} {o : HO} (s : Same F H) (h : H p = none) : Ext [] F H (upd F p o) (upd H p o) ∧ Same (upd F p o) (upd H p o) := by
  have hf : F p = none := s.free h
  refine ⟨⟨fun a u e => ?_, fun a u e _ => ?_, fun a e => ?_, fun a h1 h2 => ?_⟩, fun a u e => ?_⟩
  · rw [upd_ne (ne_of_none e hf)]; exact e
  · rw [upd_ne (ne_of_none e h)]; exact e
  · by_cases q : a = p
    · subst q; exact h
    · rw [upd_ne q] at e; exact e
  · have q : a ≠ p := fun z => h1 (by rw [z]; exact h)
    rw [upd_ne q]; exact h2
  · by_cases q : a = p
    · subst q; rw [upd_same] at e ⊢; exact e
    · rw [upd_ne q] at e ⊢; exact s a u e
/-- a new thing that is not frozen -/
theorem Ext.newH {p : Addr} {o : HO} (h : H p = none) : Ext [] F H F (upd H p o) := by
  refine ⟨Same.refl F, fun a u e _ => ?_, fun a e => ?_, fun a h1 h2 => h2⟩
  · rw [upd_ne (ne_of_none e h)]; exact e
  · by_cases q : a = p
    · subst q; exact h
    · rw [upd_ne q] at e; exact e

/-! ## judgements -/
def Ev (Γ : Gm) (Ω : Om) (te : TE) (R : As) : Prop := ∀ (Z : Bs) (F H : Hp) (σ : St), Ctx Z F H σ Γ Ω → ∀ Q : VK, (∀ v F' H', Ctx Z F' H' σ Γ Ω → Ext [] F H F' H' → R.p F' v → Q v H') → te σ H Q
def EvT (Γ : Gm) (Ω : Om) (tt : TT) (b : Bool) : Prop := ∀ (Z : Bs) (F H : Hp) (σ : St), Ctx Z F H σ Γ Ω → ∀ Q : Bool → Hp → Prop, (∀ F' H', Ctx Z F' H' σ Γ Ω → Ext [] F H F' H' → Q b H') → tt σ H Q
def EvA (Γ : Gm) (Ω : Om) (ta : TA) (Rs : List As) : Prop := ∀ (Z : Bs) (F H : Hp) (σ : St), Ctx Z F H σ Γ Ω → ∀ Q : List V → Hp → Prop, (∀ vs F' H', Ctx Z F' H' σ Γ Ω → Ext [] F H F' H' → All F' Rs vs → Q vs H') → ta σ H Q
/-- by values: an operation of two, of one, a call -/
def RV (r : R2) (Rx Ry R : As) : Prop := ∀ (F H : Hp) (x y : V), Same F H → Rx.p F x → Ry.p F y → ∀ Q : VK, (∀ v F' H', Ext [] F H F' H' → Same F' H' → R.p F' v → Q v H') → r x y H Q
def RC (r : List V → Hp → VK → Prop) (Rs : List As) (R : As) : Prop := ∀ (F H : Hp) (vs : List V), Same F H → All F Rs vs → ∀ Q : VK, (∀ v F' H', Ext [] F H F' H' → Same F' H' → R.p F' v → Q v H') → r vs H Q

variable {te ta tb : TE} {tt tu : TT} {R Rx Ry : As}
theorem ev_var {i : Nat} (h : Γ[i]? = some (some R)) : Ev Γ Ω (tVar i) R := fun Z F H σ c Q q => by
  obtain ⟨v, e, r⟩ := c.sat.get h
  exact ⟨v, e, q v F H c (Ext.refl _ _ _) r⟩
theorem ev_c {v : V} : Ev Γ Ω (tC v) (Cst v) := fun Z F H σ c Q q => q v F H c (Ext.refl _ _ _) rfl
theorem ev_op {r : R2} (ha : Ev Γ Ω ta Rx) (hb : Ev Γ Ω tb Ry) (hr : RV r Rx Ry R) : Ev Γ Ω (tOp r ta tb) R := fun Z F H σ c Q q =>
  ha Z F H σ c _ fun x F1 H1 c1 s1 rx => hb Z F1 H1 σ c1 _ fun y F2 H2 c2 s2 ry =>
    hr F2 H2 x y c2.sub (Rx.mono s2.fe rx) ry Q fun v F3 H3 e3 s3 rv => q v F3 H3 (c2.step e3 s3) (s1.trans (s2.trans e3)) rv
theorem ev_un {r : V → Hp → VK → Prop} (ha : Ev Γ Ω ta Rx) (hr : ∀ (F H : Hp) (x : V), Same F H → Rx.p F x → ∀ Q : VK, (∀ v, R.p F v → Q v H) → r x H Q) : Ev Γ Ω (tUn r ta) R := fun Z F H σ c Q q =>
  ha Z F H σ c _ fun x F1 H1 c1 s1 rx => hr F1 H1 x c1.sub rx Q fun v rv => q v F1 H1 c1 s1 rv
theorem ev_neg {n : Int} (ha : Ev Γ Ω ta (I n)) : Ev Γ Ω (tUn (rU fun i => .int (-i)) ta) (I (-n)) := ev_un ha fun F H x _ e Q q => ⟨n, e, q _ rfl⟩
theorem rv_I0 {g : Int → Int → V} {i j : Int} : RV (rI0 g) (I i) (I j) (Cst (g i j)) := fun F H x y s e e' Q q => ⟨i, j, e, e', q _ F H (Ext.refl _ _ _) s rfl⟩
theorem rv_I {C : Int → Int → Prop} {g : Int → Int → V} {i j : Int} (h : C i j) : RV (rI C g) (I i) (I j) (Cst (g i j)) := fun F H x y s e e' Q q => ⟨i, j, e, e', h, q _ F H (Ext.refl _ _ _) s rfl⟩
theorem ev_I0 {g : Int → Int → V} {i j : Int} (ha : Ev Γ Ω ta (I i)) (hb : Ev Γ Ω tb (I j)) : Ev Γ Ω (tOp (rI0 g) ta tb) (Cst (g i j)) := ev_op ha hb rv_I0
theorem ev_I {C : Int → Int → Prop} {g : Int → Int → V} {i j : Int} (ha : Ev Γ Ω ta (I i)) (hb : Ev Γ Ω tb (I j)) (h : C i j) : Ev Γ Ω (tOp (rI C g) ta tb) (Cst (g i j)) := ev_op ha hb (rv_I h)
theorem ev_eqI {i j : Int} (ha : Ev Γ Ω ta (I i)) (hb : Ev Γ Ω tb (I j)) : Ev Γ Ω (tOp rEq ta tb) (B (decide (i = j))) := ev_op ha hb fun F H x y s e e' Q q => by
  cases e; cases e'
  refine ⟨rfl, ?_⟩
  have z : decide (V.int i = V.int j) = decide (i = j) := by simp
  rw [z]
  exact q _ F H (Ext.refl _ _ _) s rfl
theorem ev_neI {i j : Int} (ha : Ev Γ Ω ta (I i)) (hb : Ev Γ Ω tb (I j)) : Ev Γ Ω (tOp rNe ta tb) (B (!decide (i = j))) := ev_op ha hb fun F H x y s e e' Q q => by
  cases e; cases e'
  refine ⟨rfl, ?_⟩
  have z : decide (V.int i = V.int j) = decide (i = j) := by simp
  rw [z]
  exact q _ F H (Ext.refl _ _ _) s rfl
theorem ev_cast {R' : As} (h : Ev Γ Ω te R) (e : ∀ F v, R.p F v → R'.p F v) : Ev Γ Ω te R' := fun Z F H σ c Q q => h Z F H σ c Q fun v F1 H1 c1 s1 r => q v F1 H1 c1 s1 (e _ _ r)
theorem ev_is {R' : As} (h : Ev Γ Ω te R) (e : R = R') : Ev Γ Ω te R' := e ▸ h
/-! places of lists and tuples -/
theorem atI_all {F : Hp} {Rs : List As} {xs : List V} {i : Int} (h : All F Rs xs) (e : atI Rs i = some R) : ∃ x, atI xs i = some x ∧ R.p F x := by
  unfold atI at e ⊢
  have hl := h.length
  rw [hl]
  cases z : ixN Rs.length i with
  | none => rw [z] at e; cases e
  | some j => rw [z] at e; exact h.get e
theorem ev_ixT {Rs : List As} {i : Int} (ha : Ev Γ Ω ta (Tp K Rs)) (hb : Ev Γ Ω tb (I i)) (h : atI Rs i = some R) : Ev Γ Ω (tOp (rIxT K) ta tb) R := ev_op ha hb fun F H x y s rx e Q q => by
  obtain ⟨a, xs, ea, hs, hl⟩ := rx
  obtain ⟨v, e1, r⟩ := atI_all hl h
  exact ⟨a, xs, i, v, ea, e, same_seqT s hs, e1, q v F H (Ext.refl _ _ _) s r⟩
theorem ev_ixL {Rs : List As} {i : Int} (ha : Ev Γ Ω ta (Ls K Rs)) (hb : Ev Γ Ω tb (I i)) (h : atI Rs i = some R) : Ev Γ Ω (tOp (rIxL K) ta tb) R := ev_op ha hb fun F H x y s rx e Q q => by
  obtain ⟨a, xs, ea, hs, hl⟩ := rx
  obtain ⟨v, e1, r⟩ := atI_all hl h
  exact ⟨a, xs, i, v, ea, e, s.seq hs, e1, q v F H (Ext.refl _ _ _) s r⟩
/-! arguments, displays, calls of built-ins -/
theorem ea_nil : EvA Γ Ω tNil [] := fun Z F H σ c Q q => q [] F H c (Ext.refl _ _ _) trivial
theorem ea_cons {tr : TA} {Rs : List As} (h : Ev Γ Ω te R) (hr : EvA Γ Ω tr Rs) : EvA Γ Ω (tCons te tr) (R :: Rs) := fun Z F H σ c Q q =>
  h Z F H σ c _ fun v F1 H1 c1 s1 r => hr Z F1 H1 σ c1 _ fun vs F2 H2 c2 s2 rs => q (v :: vs) F2 H2 c2 (s1.trans s2) ⟨R.mono s2.fe r, rs⟩
theorem ev_tup {ta : TA} {Rs : List As} (h : EvA Γ Ω ta Rs) (hl : Rs.length ≤ 1000 := by decide) : Ev Γ Ω (tTup ta) (Tp K Rs) := fun Z F H σ c Q q =>
  h Z F H σ c _ fun vs F1 H1 c1 s1 rs => ⟨by rw [rs.length]; exact Nat.le_of_lt (small1000 hl), fun p hp => by
    obtain ⟨e, s⟩ := Ext.new (o := .tup vs) c1.sub hp
    exact q (.ref p) _ _ (c1.step e s) (s1.trans e) ⟨p, vs, rfl, SqT.of upd_same, rs.mono e.fe⟩⟩
theorem ev_lst {ta : TA} {Rs : List As} (h : EvA Γ Ω ta Rs) (hl : Rs.length ≤ 1000 := by decide) : Ev Γ Ω (tLst ta) (Ls K Rs) := fun Z F H σ c Q q =>
  h Z F H σ c _ fun vs F1 H1 c1 s1 rs => ⟨by rw [rs.length]; exact Nat.le_of_lt (small1000 hl), fun p hp => by
    obtain ⟨e, s⟩ := Ext.new (o := .lst vs) c1.sub hp
    exact q (.ref p) _ _ (c1.step e s) (s1.trans e) ⟨p, vs, rfl, SqL.of upd_same, rs.mono e.fe⟩⟩
theorem ev_cb {r : List V → Hp → VK → Prop} {ta : TA} {Rs : List As} (h : EvA Γ Ω ta Rs) (hr : RC r Rs R) : Ev Γ Ω (tCB r ta) R := fun Z F H σ c Q q =>
  h Z F H σ c _ fun vs F1 H1 c1 s1 rs => hr F1 H1 vs c1.sub rs Q fun v F2 H2 e2 s2 r => q v F2 H2 (c1.step e2 s2) (s1.trans e2) r
/-! tests -/
theorem et_test {b : Bool} (h : Ev Γ Ω te (B b)) : EvT Γ Ω (tTest te) b := fun Z F H σ c Q q => h Z F H σ c _ fun v F1 H1 c1 s1 r => ⟨b, r, q F1 H1 c1 s1⟩
theorem et_B {b : Bool} (h : Ev Γ Ω te (B b)) : EvT Γ Ω (tB te) b := fun Z F H σ c Q q => h Z F H σ c _ fun v F1 H1 c1 s1 r => ⟨b, r, q F1 H1 c1 s1⟩
theorem et_and {a b : Bool} (h1 : EvT Γ Ω tt a) (h2 : a = true → EvT Γ Ω tu b) : EvT Γ Ω (tAnd tt tu) (a && b) := fun Z F H σ c Q q => h1 Z F H σ c _ fun F1 H1 c1 s1 => by
  cases a with
  | true => exact iteT (h2 rfl Z F1 H1 σ c1 Q fun F2 H2 c2 s2 => q F2 H2 c2 (s1.trans s2))
  | false => exact iteF (q F1 H1 c1 s1)
theorem et_or {a b : Bool} (h1 : EvT Γ Ω tt a) (h2 : a = false → EvT Γ Ω tu b) : EvT Γ Ω (tOr tt tu) (a || b) := fun Z F H σ c Q q => h1 Z F H σ c _ fun F1 H1 c1 s1 => by
  cases a with
  | true => exact iteT (q F1 H1 c1 s1)
  | false => exact iteF (h2 rfl Z F1 H1 σ c1 Q fun F2 H2 c2 s2 => q F2 H2 c2 (s1.trans s2))
theorem et_not {a : Bool} (h1 : EvT Γ Ω tt a) : EvT Γ Ω (tNot tt) (!a) := fun Z F H σ c Q q => h1 Z F H σ c _ fun F1 H1 c1 s1 => q F1 H1 c1 s1
theorem et_is {a b : Bool} (h : EvT Γ Ω tt a) (e : a = b) : EvT Γ Ω tt b := e ▸ h
theorem ev_andV {a b : Bool} (h1 : Ev Γ Ω ta (B a)) (h2 : a = true → Ev Γ Ω tb (B b)) : Ev Γ Ω (tAndV ta tb) (B (a && b)) := fun Z F H σ c Q q => h1 Z F H σ c _ fun v F1 H1 c1 s1 r => ⟨a, r, by
  cases a with
  | true => exact iteT (h2 rfl Z F1 H1 σ c1 Q fun v F2 H2 c2 s2 r2 => q v F2 H2 c2 (s1.trans s2) r2)
  | false => exact iteF (q _ F1 H1 c1 s1 rfl)⟩
theorem ev_orV {a b : Bool} (h1 : Ev Γ Ω ta (B a)) (h2 : a = false → Ev Γ Ω tb (B b)) : Ev Γ Ω (tOrV ta tb) (B (a || b)) := fun Z F H σ c Q q => h1 Z F H σ c _ fun v F1 H1 c1 s1 r => ⟨a, r, by
  cases a with
  | true => exact iteT (q _ F1 H1 c1 s1 rfl)
  | false => exact iteF (h2 rfl Z F1 H1 σ c1 Q fun v F2 H2 c2 s2 r2 => q v F2 H2 c2 (s1.trans s2) r2)⟩
theorem ev_notV {a : Bool} (h1 : Ev Γ Ω ta (B a)) : Ev Γ Ω (tNotV ta) (B (!a)) := fun Z F H σ c Q q => h1 Z F H σ c _ fun v F1 H1 c1 s1 r => ⟨a, r, q _ F1 H1 c1 s1 rfl⟩
theorem ev_if {b : Bool} (h : EvT Γ Ω tt b) (h1 : b = true → Ev Γ Ω ta R) (h2 : b = false → Ev Γ Ω tb R) : Ev Γ Ω (tIf tt ta tb) R := fun Z F H σ c Q q => h Z F H σ c _ fun F1 H1 c1 s1 => by
  cases b with
  | true => exact iteT (h1 rfl Z F1 H1 σ c1 Q fun v F2 H2 c2 s2 r2 => q v F2 H2 c2 (s1.trans s2) r2)
  | false => exact iteF (h2 rfl Z F1 H1 σ c1 Q fun v F2 H2 c2 s2 r2 => q v F2 H2 c2 (s1.trans s2) r2)

/-! ## contracts of defs that change nothing -/
def CtF {α : Type} (args : α → List As) (pre : α → Prop) (res : α → As) : Sp := fun vs H Q _ =>
  ∃ a F, Same F H ∧ All F (args a) vs ∧ pre a ∧ ∀ v F' H', Ext [] F H F' H' → Same F' H' → (res a).p F' v → Q v H'
theorem CtF.len {α : Type} {args : α → List As} {pre : α → Prop} {res : α → As} {n : Nat} (h : ∀ a, (args a).length = n) : ∀ vs H Q E, CtF args pre res vs H Q E → vs.length = n := by
  rintro vs H Q E ⟨a, F, _, ha, _⟩
  rw [ha.length, h]
theorem ev_call {α : Type} {args : α → List As} {pre : α → Prop} {res : α → As} {E : XK} {ta : TA} (a : α) (h : EvA Γ Ω ta (args a)) (hp : pre a) : Ev Γ Ω (tCall (CtF args pre res) [] E ta) (res a) := fun Z F H σ c Q q =>
  h Z F H σ c _ fun vs F1 H1 c1 s1 rs => ⟨a, F1, c1.sub, by rw [List.append_nil]; exact rs, hp, fun v F2 H2 e2 s2 r => q v F2 H2 (c1.step e2 s2) (s1.trans e2) r⟩
theorem ctx_start {Rs : List As} {vs : List V} {N : List Str} (s : Same F H) (h : All F Rs vs) : Ctx ⟨F, H, [], F, []⟩ F H (L2.start N vs) (Rs.map some ++ List.replicate (N.length - Rs.length) none) [] := by
  refine ⟨?_, s, fun _ h => absurd h List.not_mem_nil, List.nodup_nil, fun _ h => absurd h List.not_mem_nil, Ext.refl _ _ _, Same.refl _⟩
  unfold L2.start
  rw [h.length]
  exact sat_start _ h

/-! ## targets -/
def Gt (Γ : Gm) (R : As) (g : TG) (Γ' : Gm) (ws : List Nat) : Prop := ∀ (Z : Bs) (F H : Hp) (σ : St) (v : V) (Ω : Om), Ctx Z F H σ Γ Ω → R.p F v → ∀ Q : St → Hp → Prop,
  (∀ σ', Ctx Z F H σ' Γ' Ω → (∀ vs, (∀ i, i ∈ ws → i ∈ vs) → wipe σ' vs = wipe σ vs) → Q σ' H) → g v σ H Q
def Gts (Γ : Gm) (Rs : List As) (g : TGs) (Γ' : Gm) (ws : List Nat) : Prop := ∀ (Z : Bs) (F H : Hp) (σ : St) (vs : List V) (Ω : Om), Ctx Z F H σ Γ Ω → All F Rs vs → ∀ Q : St → Hp → Prop,
  (∀ σ', Ctx Z F H σ' Γ' Ω → (∀ us, (∀ i, i ∈ ws → i ∈ us) → wipe σ' us = wipe σ us) → Q σ' H) → g vs σ H Q
theorem wipe_set {σ : St} {i : Nat} {s : Option V} : ∀ {vs : List Nat}, i ∈ vs → wipe (σ.set i s) vs = wipe σ vs
  | [], h => absurd h List.not_mem_nil
  | v :: vs, h => by
    show (wipe (σ.set i s) vs).set v none = (wipe σ vs).set v none
    by_cases hi : i ∈ vs
    · rw [wipe_set hi]
    · have e : i = v := by
        rcases List.mem_cons.mp h with q | q
        · exact q
        · exact absurd q hi
      subst e
      have k : ∀ {us : List Nat} {τ : St}, i ∉ us → wipe (τ.set i s) us = (wipe τ us).set i s := fun {us τ} => by
        induction us with
        | nil => intro _; rfl
        | cons u us ih =>
          intro hn
          have h1 : u ≠ i := fun z => hn (by rw [z]; exact List.mem_cons_self)
          have h2 : i ∉ us := fun z => hn (List.mem_cons_of_mem _ z)
          show (wipe (τ.set i s) us).set u none = ((wipe τ us).set u none).set i s
          rw [ih h2, List.set_comm _ _ h1]
      rw [k hi, List.set_set]
theorem gt_name {i : Nat} : Gt Γ R (gName i) (Γ.set i (some R)) [i] := fun Z F H σ v Ω c r Q q => q _ (c.set i r) fun vs h => wipe_set (h i List.mem_cons_self)
theorem gts_nil : Gts Γ [] gNil Γ [] := fun Z F H σ vs Ω c rs Q q => by
  cases vs with
  | nil => exact ⟨rfl, q σ c fun _ _ => rfl⟩
  | cons _ _ => exact rs.elim
theorem gts_cons {t : TG} {u : TGs} {Γ1 Γ2 : Gm} {Rs : List As} {w1 w2 : List Nat} (h : Gt Γ R t Γ1 w1) (h' : Gts Γ1 Rs u Γ2 w2) : Gts Γ (R :: Rs) (gCons t u) Γ2 (w1 ++ w2) := fun Z F H σ vs Ω c rs Q q => by
  cases vs with
  | nil => exact rs.elim
  | cons x xs => exact ⟨x, xs, rfl, h Z F H σ x Ω c rs.1 _ fun σ1 c1 k1 => h' Z F H σ1 xs Ω c1 rs.2 Q fun σ2 c2 k2 => q σ2 c2 fun us hu =>
      (k2 us fun i hi => hu i (List.mem_append_right _ hi)).trans (k1 us fun i hi => hu i (List.mem_append_left _ hi))⟩
theorem gt_tup {n : Nat} {t : TGs} {Rs : List As} {ws : List Nat} (h : Gts Γ Rs t Γ' ws) (hn : Rs.length = n := by rfl) : Gt Γ (Tp K Rs) (gTup K n t) Γ' ws := fun Z F H σ v Ω c r Q q => by
  obtain ⟨a, xs, e, hs, hl⟩ := r
  exact ⟨a, xs, e, same_seqT c.sub hs, hl.length.trans hn, h Z F H σ xs Ω c hl Q q⟩

/-! ## statements -/
variable {n : L2.St → Hp → Prop} {r : VK} {bk ct : L2.St → Hp → Prop} {t1 t2 : TS}
theorem st_asg {g : TG} {ws : List Nat} (c : Ctx Z F H σ Γ Ω) (e : Ev Γ Ω te R) (hg : Gt Γ R g Γ' ws) (k : ∀ F' H' σ', Ctx Z F' H' σ' Γ' Ω → Same F F' → n σ' H') : tAsg te g ⟨n, r, bk, ct⟩ σ H :=
  e Z F H σ c _ fun v F1 H1 c1 s1 rv => hg Z F1 H1 σ v Ω c1 rv _ fun σ' c2 _ => k F1 H1 σ' c2 s1.fe
theorem st_set {i : Nat} (c : Ctx Z F H σ Γ Ω) (e : Ev Γ Ω te R) (k : ∀ F' H' σ', Ctx Z F' H' σ' (Γ.set i (some R)) Ω → Same F F' → n σ' H') : tAsg te (gName i) ⟨n, r, bk, ct⟩ σ H := st_asg c e gt_name k
theorem st_drop (c : Ctx Z F H σ Γ Ω) (e : Ev Γ Ω te R) (k : ∀ F' H', Ctx Z F' H' σ Γ Ω → Same F F' → n σ H') : tDrop te ⟨n, r, bk, ct⟩ σ H := e Z F H σ c _ fun _ F1 H1 c1 s1 _ => k F1 H1 c1 s1.fe
theorem st_ret (c : Ctx Z F H σ Γ Ω) (e : Ev Γ Ω te R) (k : ∀ v F' H', Ctx Z F' H' σ Γ Ω → Same F F' → R.p F' v → r v H') : tRet te ⟨n, r, bk, ct⟩ σ H := e Z F H σ c _ fun v F1 H1 c1 s1 rv => k v F1 H1 c1 s1.fe rv
theorem st_if {b : Bool} (c : Ctx Z F H σ Γ Ω) (e : EvT Γ Ω tt b) (k1 : b = true → ∀ F' H', Ctx Z F' H' σ Γ Ω → Same F F' → t1 ⟨n, r, bk, ct⟩ σ H') (k2 : b = false → ∀ F' H', Ctx Z F' H' σ Γ Ω → Same F F' → t2 ⟨n, r, bk, ct⟩ σ H') : tIfS tt t1 t2 ⟨n, r, bk, ct⟩ σ H :=
  e Z F H σ c _ fun F1 H1 c1 s1 => by
    cases b with
    | true => exact iteT (k1 rfl F1 H1 c1 s1.fe)
    | false => exact iteF (k2 rfl F1 H1 c1 s1.fe)
theorem st_par {i j : Nat} {ta : TA} {R1 R2 : As} (c : Ctx Z F H σ Γ Ω) (e : EvA Γ Ω ta [R1, R2]) (k : ∀ F' H' σ', Ctx Z F' H' σ' ((Γ.set i (some R1)).set j (some R2)) Ω → Same F F' → n σ' H') : tPar i j ta ⟨n, r, bk, ct⟩ σ H :=
  e Z F H σ c _ fun vs F1 H1 c1 s1 rs => by
    match vs, rs with
    | [v, w], ⟨r1, r2, _⟩ => exact ⟨v, w, rfl, k F1 H1 _ ((c1.set i r1).set j r2) s1.fe⟩
theorem st_aug {i : Nat} {ti : TIp} {Rx : As} (c : Ctx Z F H σ Γ Ω) (h : Γ[i]? = some (some Rx)) (e : Ev Γ Ω te Ry) (hr : RV ti Rx Ry R) (k : ∀ F' H' σ', Ctx Z F' H' σ' (Γ.set i (some R)) Ω → Same F F' → n σ' H') : tAug i te ti ⟨n, r, bk, ct⟩ σ H := by
  obtain ⟨x, ex, rx⟩ := c.sat.get h
  exact ⟨x, ex, e Z F H σ c _ fun y F1 H1 c1 s1 ry => hr F1 H1 x y c1.sub (Rx.mono s1.fe rx) ry _ fun v F2 H2 e2 s2 rv => k F2 H2 _ ((c1.step e2 s2).set i rv) (s1.fe.trans e2.fe)⟩
theorem st_while {ι : Type} {tc : TT} {tb : TS} (G : ι → Gm) (O : ι → Om) (P : ι → Prop) (μ : ι → Nat) (b : ι → Bool) (i0 : ι) (c : Ctx Z F H σ (G i0) (O i0)) (p0 : P i0) (ht : ∀ i, P i → EvT (G i) (O i) tc (b i))
    (body : ∀ i F H σ (N : St → Hp → Prop), P i → b i = true → Ctx Z F H σ (G i) (O i) → (∀ j F' H' σ', P j → μ j < μ i → Ctx Z F' H' σ' (G j) (O j) → N σ' H') → tb ⟨N, r, n, N⟩ σ H)
    (hd : ∀ i F H σ, P i → b i = false → Ctx Z F H σ (G i) (O i) → n σ H) : tWhile tc tb ⟨n, r, bk, ct⟩ σ H := by
  refine ⟨fun m σ H => ∃ i F, μ i = m ∧ P i ∧ Ctx Z F H σ (G i) (O i), ⟨_, i0, F, rfl, p0, c⟩, ?_⟩
  rintro m σ H ⟨i, F, rfl, p, c⟩
  refine ht i p Z F H σ c _ fun F1 H1 c1 s1 => ?_
  cases e : b i with
  | true => exact iteT ⟨fun σ' H' => ∃ m', m' < μ i ∧ ∃ j F', μ j = m' ∧ P j ∧ Ctx Z F' H' σ' (G j) (O j), fun σ' H' h => h, body i F1 H1 σ _ p e c1 fun j F' H' σ' pj lt cj => ⟨_, lt, j, F', rfl, pj, cj⟩⟩
  | false => exact iteF (hd i F1 H1 σ p e c1)
theorem st_for {ι α : Type} {tl : TE} {g : TG} {tb : TS} {xs : List α} {f : α → As} (G : ι → Gm) (G' : α → ι → Gm) (O : ι → Om) (P : Nat → ι → Prop) {ws : List Nat} (i0 : ι) (c : Ctx Z F H σ (G i0) (O i0)) (e : Ev (G i0) (O i0) tl (Ls K (xs.map f))) (p0 : P 0 i0)
    (hg : ∀ x i, Gt (G i) (f x) g (G' x i) ws)
    (body : ∀ k x i G1 F H σ (N : St → Hp → Prop), xs[k]? = some x → P k i → Ctx (Z.pin G1) F H σ (G' x i) (O i) → (∀ j F' H' σ', P (k + 1) j → Ctx (Z.pin G1) F' H' σ' (G j) (O j) → N σ' H') → tb ⟨N, r, n, N⟩ σ H)
    (hd : ∀ i F H σ, P xs.length i → Ctx Z F H σ (G i) (O i) → n σ H) : tFor (iList K tl) g tb ⟨n, r, bk, ct⟩ σ H := by
  refine e Z F H σ c _ fun v F1 H1 c1 s1 rv => ?_
  obtain ⟨a, ys, ea, hs, hl⟩ := rv
  have hlen : ys.length = xs.length := by rw [hl.length, List.length_map]
  refine ⟨a, ea, ⟨ys, c1.sub.seq hs⟩, for_list (K := K) (a := a) (xs := ys) (fun k σ H => ∃ i F, P k i ∧ Ctx (Z.pin F1) F H σ (G i) (O i)) ⟨i0, F1, p0, c1.topin (Same.refl _)⟩ (fun k σ H _ ⟨i, F, _, cc⟩ => cc.sub.seq (cc.pin.seq hs)) ?_ ?_⟩
  · rintro k y σ H hy ⟨i, F, p, cc⟩
    have hk : k < xs.length := by rw [← hlen]; exact (List.getElem?_eq_some_iff.mp hy).1
    have hx : xs[k]? = some xs[k] := List.getElem?_eq_getElem hk
    have hz : (xs.map f)[k]? = some (f xs[k]) := by rw [List.getElem?_map, hx]; rfl
    obtain ⟨y', ey, ry⟩ := hl.get hz
    rw [hy] at ey
    cases ey
    refine hg xs[k] i (Z.pin F1) F H σ y (O i) cc ((f xs[k]).mono cc.pin ry) _ fun σ' c' _ => ?_
    exact body k xs[k] i F1 F H σ' _ hx p c' fun j F' H' σ'' pj cj => ⟨j, F', pj, cj⟩
  · rintro σ H ⟨i, F, p, cc⟩
    rw [hlen] at p
    exact hd i F H σ p (cc.unpin c1.pin)
end
end Y

namespace Y
open PySem L2 PySem.Spec
open PyProof.Rows (envOfC)
open C8 (tCut pss_cut)
/-! ## a def of the text, and its promise -/
/-- where the text's def st stands -/
structure Tx (K : PySem.W.Frag) (mg : Str → Option Value) (x : Str) (st : Stmt) (ps : List Str) : Prop where
  ex : ∃ f fd, Fun K x x st f fd ∧ mg x = some (.ref f) ∧ Binds K fd ps []
structure Dn (P : Program) (w : World) (K : PySem.W.Frag) (mg : Str → Option Value) (base : Heap) (k : Nat) (x : Str) (ps : List Str) (sp : Sp) : Prop where
  ex : ∃ f fd, mg x = some (.ref f) ∧ PySem.W.keepIn K (.ref f) = true ∧ Binds K fd ps [] ∧ (∃ oc od osl, K.lookup f = some ⟨oc, od, .func fd, osl⟩) ∧ FnOk P w K mg base (L2.CX P w) k f fd ps sp
section
variable {P : Program} {w : World} {K : PySem.W.Frag} {mg : Str → Option Value} {base : Heap}
theorem Tx.okX {x : Str} {st : Stmt} {N ps : List Str} {k : Nat} {sp : Sp} (T : Tx K mg x st ps) (S : FnScope N ps (defScope st)) (len : ∀ vs H Q E, sp vs H Q E → vs.length = ps.length)
    (hbody : ∀ (f : Addr) (cdv : Value) (A : Around) (outer : List Env) (s : Shared) (H : Hp) (vs : List V) (Q : VK) (E : XK), Room k (A.deeper (envOfC x (defScope st) s.heap.objs.size f cdv)) → sp vs H Q E →
      ∃ t, PSs (cxOf (L2.CX P w) P w K mg base N x (defScope st) f cdv A outer s H E) (defBody st) t ∧ t { nx := fun _ H' => Q .non H', rt := Q } (L2.start N vs) H) : Dn P w K mg base (k + 1) x ps sp := by
  obtain ⟨f, fd, F, m, b⟩ := T.ex
  have F' := F
  obtain ⟨oc, od, kV, doc, pm, an, cdv, ct, osl, _, lk, hcd⟩ := F.ex
  exact ⟨f, fd, m, F'.kp, b, ⟨oc, od, osl, lk⟩, F'.okX S len (hbody f)⟩
theorem FnOk_x {k : Nat} {f : Addr} {fd : FuncData} {ps : List Str} {sp : Sp} (F : FnOk P w K mg base CX0 k f fd ps sp) : FnOk P w K mg base (L2.CX P w) k f fd ps sp :=
  ⟨F.len, fun A outer s H args us vs Q E hr he hb hv hs => codeAny_mono (F.run A outer s H args us vs Q E hr he hb hv hs) fun r s' hq => by
    cases r with
    | error e => exact False.elim hq
    | ok fl =>
      cases fl with
      | ret u => exact hq
      | next => exact hq
      | brk => exact hq
      | cont => exact hq⟩
/-- a def that lets nothing out -/
theorem Tx.ok {x : Str} {st : Stmt} {N ps : List Str} {k : Nat} {sp : Sp} (T : Tx K mg x st ps) (S : FnScope N ps (defScope st)) (len : ∀ vs H Q E, sp vs H Q E → vs.length = ps.length)
    (hbody : ∀ (f : Addr) (cdv : Value) (A : Around) (outer : List Env) (s : Shared) (H : Hp) (vs : List V) (Q : VK) (E : XK), Room k (A.deeper (envOfC x (defScope st) s.heap.objs.size f cdv)) → sp vs H Q E →
      ∃ t, PSs (cxOf CX0 P w K mg base N x (defScope st) f cdv A outer s H E).nox (defBody st) t ∧ t { nx := fun _ H' => Q .non H', rt := Q } (L2.start N vs) H) : Dn P w K mg base (k + 1) x ps sp := by
  obtain ⟨f, fd, F, m, b⟩ := T.ex
  have F' := F
  obtain ⟨oc, od, kV, doc, pm, an, cdv, ct, osl, _, lk, hcd⟩ := F.ex
  exact ⟨f, fd, m, F'.kp, b, ⟨oc, od, osl, lk⟩, FnOk_x (F'.ok S len (hbody f))⟩
theorem law_end {k : Nat} {x : Str} {ps : List Str} {sp : Sp} (D : Dn P w K mg base k x ps sp) {f : Addr} {fd : FuncData} {oc : Value} {od : Option Addr} {osl : Array (Option Value)} (m : mg x = some (.ref f)) (l : K.lookup f = some ⟨oc, od, .func fd, osl⟩) :
    FnOk P w K mg base (L2.CX P w) k f fd ps sp := by
  obtain ⟨f', fd', m', _, _, ⟨oc', od', osl', l'⟩, h⟩ := D.ex
  rw [m] at m'
  cases m'
  rw [l] at l'
  cases l'
  exact h
theorem tx_mk {x : Str} {st : Stmt} {f : Addr} {oc : Value} {od an : Option Addr} {osl : Array (Option Value)} {kV doc pm cdv ct : Value} {ps : List Str} {h : Heap} (X : K.In h) (G : h.Ns mainGlobals mg)
    (a : PySem.W.nsIn K mainGlobals x = some (some (.ref f)))
    (l : K.lookup f = some ⟨oc, od, .func (PySem.W.fnOf x x (defArgs st) (defBody st) (defScope st) .none kV doc pm an cdv ct), osl⟩)
    (c : PySem.W.codeIn K cdv x = true) (k : PySem.W.keepIn K (.ref f) = true)
    (hb : ∀ (kV doc pm : Value) (an : Option Addr) (cdv ct : Value) (us : List Value), us.length = ps.length → bindArgs (PySem.W.fnOf x x (defArgs st) (defBody st) (defScope st) .none kV doc pm an cdv ct) ⟨us, []⟩ = pure (ps.zip us)) : Tx K mg x st ps :=
  ⟨f, _, fun_mk l c k, PySem.W.mg_of X G a, (fun_mk l c k).binds hb⟩
section
variable {X : Cx} {k : Nat} {ps : List Str} {sp : Sp} {x : Str} {p pos : Pos} {e : Expr} {es : List Expr} {t : TA}
theorem pe_d (D : Dn X.prog X.w X.K X.mg X.base k x ps sp) (hr : Room k X.A) (hg : Gl X x) (ha : PA X (e :: es) t) (hdb : (x == ("__debug__" : Str)) = false := by decide)
    (he : starEach (e :: es) X.env = (false, eval e X.env) :: starEach es X.env := by rfl) (hpl : (backTo pos (starEach es X.env)).any (·.1) = false := by rfl) :
    PE X (.Call (.Name x p) (e :: es) [] pos) (tCall sp [] E0 t) := by
  obtain ⟨f, fd, m, kp, b, _, G⟩ := D.ex
  exact pe_call G hr hg m kp b .nil passL ha hdb he hpl
theorem pe_d0 (D : Dn X.prog X.w X.K X.mg X.base k x ps sp) (hr : Room k X.A) (hg : Gl X x) (hdb : (x == ("__debug__" : Str)) = false := by decide) :
    PE X (.Call (.Name x p) [] [] pos) (tCall sp [] E0 tNil) := by
  obtain ⟨f, fd, m, kp, b, _, G⟩ := D.ex
  exact pe_call0 G hr hg m kp b .nil passL hdb
end
section
variable {X : Cx} {k : Nat} {ps : List Str} {sp : Sp} {x : Str} {p pos : Pos} {e : Expr} {es : List Expr} {t : TA} {W : WX}
/-- a call that may raise, in a def (or a try) that lets it out (or takes it) -/
theorem pe_dS (tk : Takes X W) (D : Dn X.prog X.w X.K X.mg X.base k x ps sp) (hr : Room k X.A) (hg : Gl X x) (ha : PA X (e :: es) t) (hdb : (x == ("__debug__" : Str)) = false := by decide)
    (he : starEach (e :: es) X.env = (false, eval e X.env) :: starEach es X.env := by rfl) (hpl : (backTo pos (starEach es X.env)).any (·.1) = false := by rfl) :
    PE X (.Call (.Name x p) (e :: es) [] pos) (tCallS sp (WE W) t) := by
  obtain ⟨f, fd, m, kp, b, _, G⟩ := D.ex
  exact pe_callS G hr hg m kp b (fun σ => passAt tk σ) ha hdb he hpl
end
end
/-! ## what raises -/
def CtE {α : Type} (args : α → List As) (pre : α → Prop) (res : α → As) (good : α → Prop) (C : Addr) : Sp := fun vs H Q E =>
  ∃ a F, Same F H ∧ All F (args a) vs ∧ pre a ∧ (good a → ∀ v F' H', Ext [] F H F' H' → Same F' H' → (res a).p F' v → Q v H') ∧ (¬ good a → ∀ F' H', Ext [] F H F' H' → Same F' H' → E (.ref C) none H')
theorem CtE.len {α : Type} {args : α → List As} {pre good : α → Prop} {res : α → As} {C : Addr} {n : Nat} (h : ∀ a, (args a).length = n) : ∀ vs H Q E, CtE args pre res good C vs H Q E → vs.length = n := by
  rintro vs H Q E ⟨a, F, _, ha, _⟩
  rw [ha.length, h]
section
variable {Γ : Gm} {Ω : Om} {te ta tb : TE}
theorem ev_callE {α : Type} {args : α → List As} {pre good : α → Prop} {res : α → As} {C : Addr} {E : XK} {ta : TA} (a : α) (h : EvA Γ Ω ta (args a)) (hp : pre a) (hg : good a) : Ev Γ Ω (tCall (CtE args pre res good C) [] E ta) (res a) := fun Z F H σ c Q q =>
  h Z F H σ c _ fun vs F1 H1 c1 s1 rs => ⟨a, F1, c1.sub, by rw [List.append_nil]; exact rs, hp, fun _ v F2 H2 e2 s2 r => q v F2 H2 (c1.step e2 s2) (s1.trans e2) r, fun n => absurd hg n⟩

instance (i j : Int) : Decidable (CPow i j) := inferInstanceAs (Decidable (_ ∧ _ ∧ _))
instance (i j : Int) : Decidable (CMulW i j) := inferInstanceAs (Decidable (_ < _))
instance (i j : Int) : Decidable (CDivW i j) := inferInstanceAs (Decidable (_ ∧ _))
/-- return f(..), f one that may raise -/
theorem st_retE {α : Type} {args : α → List As} {pre good : α → Prop} {res : α → As} {C : Addr} {W : St → XK} {ta : TA} {Z : Bs} {F H : Hp} {σ : L2.St} {n : L2.St → Hp → Prop} {r : VK} {bk ct : L2.St → Hp → Prop} (a : α) (c : Ctx Z F H σ Γ Ω) (h : EvA Γ Ω ta (args a)) (hp : pre a)
    (k1 : good a → ∀ v F' H', Ctx Z F' H' σ Γ Ω → Same F F' → (res a).p F' v → r v H') (k2 : ¬ good a → ∀ F' H', Ctx Z F' H' σ Γ Ω → Same F F' → W σ (.ref C) none H') : tRet (tCallS (CtE args pre res good C) W ta) ⟨n, r, bk, ct⟩ σ H :=
  h Z F H σ c _ fun vs F1 H1 c1 s1 rs => ⟨a, F1, c1.sub, rs, hp, fun g v F2 H2 e2 s2 rv => k1 g v F2 H2 (c1.step e2 s2) (s1.fe.trans e2.fe) rv, fun g F2 H2 e2 s2 => k2 g F2 H2 (c1.step e2 s2) (s1.fe.trans e2.fe)⟩
/-! ## ints in bounds -/
def Bt (n : Nat) (x : Int) : Prop := x.natAbs < 2 ^ n
theorem Bt.up {n m : Nat} {x : Int} (h : Bt n x) (l : n ≤ m) : Bt m x := Nat.lt_of_lt_of_le h (Nat.pow_le_pow_right (by decide) l)
theorem Bt.mul {n m : Nat} {x y : Int} (h : Bt n x) (k : Bt m y) : Bt (n + m) (x * y) := wide_lt h k
theorem Bt.add {n : Nat} {x y : Int} (h : Bt n x) (k : Bt n y) : Bt (n + 1) (x + y) := by
  unfold Bt at *
  rw [Nat.pow_succ]
  omega
theorem Bt.sub {n : Nat} {x y : Int} (h : Bt n x) (k : Bt n y) : Bt (n + 1) (x - y) := by
  unfold Bt at *
  rw [Nat.pow_succ]
  omega
theorem Bt.zero {n : Nat} : Bt n 0 := by unfold Bt; exact Nat.pow_pos (by decide)
theorem Bt.neg {n : Nat} {x : Int} (h : Bt n x) : Bt n (0 - x) := by unfold Bt at *; omega
theorem Bt.le {n : Nat} {x y : Int} (h : Bt n y) (l : x.natAbs ≤ y.natAbs) : Bt n x := Nat.lt_of_le_of_lt l h
theorem Bt.mulW {n m : Nat} {x y : Int} (h : Bt n x) (k : Bt m y) (l : n + m ≤ 900000 := by decide) : CMulW x y := by
  have h' := h.up (Nat.le_succ n)
  have k' := k.up (Nat.le_succ m)
  exact wide_mul h' k' (Nat.succ_pos _) (Nat.succ_pos _) (by omega)
theorem Bt.divW {n : Nat} {x y : Int} (h : 0 < y) (k : Bt n y) (l : n ≤ 8999 := by decide) : CDivW x y := wide_div h (k.up (Nat.le_succ n)) (Nat.succ_pos _) (by omega)

theorem All.one {F : Hp} {R : As} : ∀ {vs : List V}, All F [R] vs → ∃ v, vs = [v] ∧ R.p F v
  | [], h => h.elim
  | [v], h => ⟨v, rfl, h.1⟩
  | _ :: _ :: _, h => h.2.elim
theorem All.two {F : Hp} {R R' : As} : ∀ {vs : List V}, All F [R, R'] vs → ∃ v w, vs = [v, w] ∧ R.p F v ∧ R'.p F w
  | [], h => h.elim
  | [_], h => h.2.elim
  | [v, w], h => ⟨v, w, rfl, h.1, h.2.1⟩
  | _ :: _ :: _ :: _, h => h.2.2.elim
theorem Bt.divP {n : Nat} {x y : Int} (h : 0 < y) (k : Bt n y) (l : n ≤ 8999 := by decide) : CDivP x y := ⟨h, PyProof.noPylong_of_log2 (Bt.divW (x := x) h k l).2⟩
/-! ## built-ins by values -/
theorem rc_abs {n : Int} : RC (fun xs H Q => ∃ i, xs = [.int i] ∧ Q (.int (if i < 0 then -i else i)) H) [I n] (I (n.natAbs : Int)) := fun F H vs s h Q q => by
    obtain ⟨v, rfl, e⟩ := h.one
    cases e
    refine ⟨n, rfl, ?_⟩
    have z : (if n < 0 then -n else n) = (n.natAbs : Int) := by split <;> omega
    rw [z]
    exact q _ F H (Ext.refl _ _ _) s rfl
theorem rc_lenL {K : PySem.W.Frag} {Rs : List As} : RC (fun xs H Q => ∃ p ys, xs = [.ref p] ∧ (SqL K H p ys ∨ SqT K H p ys) ∧ Q (.int ys.length) H) [Ls K Rs] (I (Rs.length : Int)) := fun F H vs s h Q q => by
    obtain ⟨v, rfl, a, xs, e, hs, hl⟩ := h.one
    cases e
    have z := hl.length
    exact ⟨a, xs, rfl, .inl (s.seq hs), by rw [z]; exact q _ F H (Ext.refl _ _ _) s rfl⟩
theorem rc_lenT {K : PySem.W.Frag} {Rs : List As} : RC (fun xs H Q => ∃ p ys, xs = [.ref p] ∧ (SqL K H p ys ∨ SqT K H p ys) ∧ Q (.int ys.length) H) [Tp K Rs] (I (Rs.length : Int)) := fun F H vs s h Q q => by
    obtain ⟨v, rfl, a, xs, e, hs, hl⟩ := h.one
    cases e
    have z := hl.length
    exact ⟨a, xs, rfl, .inr (same_seqT s hs), by rw [z]; exact q _ F H (Ext.refl _ _ _) s rfl⟩
theorem rc_divmod {K : PySem.W.Frag} {C : Int → Int → Prop} {i j : Int} (h : C i j) : RC (fun xs H Q => ∃ i j, xs = [.int i, .int j] ∧ C i j ∧ ∀ p, H p = none → Q (.ref p) (upd H p (.tup [.int (i / j), .int (i % j)]))) [I i, I j] (Tp K [I (i / j), I (i % j)]) := fun F H vs s hv Q q => by
    obtain ⟨v, w, rfl, e, e'⟩ := hv.two
    cases e; cases e'
    refine ⟨i, j, rfl, h, fun p hp => ?_⟩
    obtain ⟨e, s'⟩ := Ext.new (o := .tup [.int (i / j), .int (i % j)]) s hp
    exact q _ _ _ e s' ⟨p, _, rfl, SqT.of upd_same, rfl, rfl, trivial⟩
/-! isinstance -/
/-- the type of what an assertion tells of -/
structure HasTy (K : PySem.W.Frag) (R : As) (t : Value) : Prop where
  ty : ∀ F H v, Same F H → R.p F v → TyX K H v t
theorem ty_int {K : PySem.W.Frag} {n : Int} : HasTy K (I n) (.type "int") := ⟨fun F H v s e => by cases e; exact .base (.int n)⟩
theorem ty_bool {K : PySem.W.Frag} {n : Bool} : HasTy K (B n) (.type "bool") := ⟨fun F H v s e => by cases e; exact .base (.bl n)⟩
theorem ty_tup {K : PySem.W.Frag} {Rs : List As} : HasTy K (Tp K Rs) (.type "tuple") := ⟨fun F H v s e => by
  obtain ⟨a, xs, e, hs, _⟩ := e
  cases e
  rcases hs with (h | ⟨o, h⟩) | ⟨o, its, n, h, hc, _⟩
  · exact .base (.tup (s _ _ h))
  · exact .fTuple (s _ _ h)
  · exact .kTuple h hc⟩
theorem ty_lst {K : PySem.W.Frag} {Rs : List As} : HasTy K (Ls K Rs) (.type "list") := ⟨fun F H v s e => by
  obtain ⟨a, xs, e, hs, _⟩ := e
  cases e
  rcases hs with (h | ⟨o, h⟩) | ⟨o, its, n, h, hc, _⟩
  · exact .base (.lst (s _ _ h))
  · exact .base (.frz (s _ _ h))
  · exact .kList h hc⟩
theorem rc_isi {K : PySem.W.Frag} {R : As} {t u : Value} {c : V} {b : Bool} (hc : ClsV c u) (ht : HasTy K R t) (hk : PySem.W.kitOne K t u = some b) : RC (rIsi K) [R, Cst c] (B b) := fun F H vs s h Q q => by
    obtain ⟨x, y, rfl, r, e⟩ := h.two
    cases e
    exact ⟨x, c, t, u, b, rfl, hc, ht.ty F H x s r, hk, q _ F H (Ext.refl _ _ _) s rfl⟩

theorem rc_list {K : PySem.W.Frag} {Rs : List As} : RC (fun xs H Q => ∃ p ys, xs = [.ref p] ∧ (SqL K H p ys ∨ SqT K H p ys) ∧ ∀ l, H l = none → Q (.ref l) (upd H l (.lst ys))) [Ls K Rs] (Ls K Rs) := fun F H vs s h Q q => by
  obtain ⟨v, rfl, a, xs, e, hs, hl⟩ := h.one
  cases e
  refine ⟨a, xs, rfl, .inl (s.seq hs), fun p hp => ?_⟩
  obtain ⟨e, s'⟩ := Ext.new (o := .lst xs) s hp
  exact q _ _ _ e s' ⟨p, _, rfl, SqL.of upd_same, hl.mono e.fe⟩
/-! pairs of ints, fractions -/
def Fr (K : PySem.W.Frag) (q : Int × Int) : As := Tp K [I q.1, I q.2]
theorem ev_fr {K : PySem.W.Frag} {ta : TA} {a b : Int} (h : EvA Γ Ω ta [I a, I b]) : Ev Γ Ω (tTup ta) (Fr K (a, b)) := ev_tup h (show 2 ≤ 1000 by decide)
theorem ty_fr {K : PySem.W.Frag} {q : Int × Int} : HasTy K (Fr K q) (.type "tuple") := ty_tup
theorem rc_lenF {K : PySem.W.Frag} {q : Int × Int} : RC (fun xs H Q => ∃ p ys, xs = [.ref p] ∧ (SqL K H p ys ∨ SqT K H p ys) ∧ Q (.int ys.length) H) [Fr K q] (I 2) := rc_lenT
/-! tests by chains -/
theorem ev_chain {p1 p2 : Int → Int → Bool} {i j k : Int} {tc : TE} (ha : Ev Γ Ω ta (I i)) (hb : Ev Γ Ω tb (I j)) (hc : Ev Γ Ω tc (I k)) : Ev Γ Ω (tChain (rI0 fun i j => .bl (p1 i j)) (rI0 fun i j => .bl (p2 i j)) ta tb tc) (B (p1 i j && p2 j k)) := fun Z F H σ c Q q =>
  ha Z F H σ c _ fun x F1 H1 c1 s1 rx => hb Z F1 H1 σ c1 _ fun y F2 H2 c2 s2 ry => by
    cases rx; cases ry
    refine ⟨i, j, rfl, rfl, p1 i j, rfl, ?_⟩
    cases e : p1 i j with
    | true =>
      refine iteT (hc Z F2 H2 σ c2 _ fun z F3 H3 c3 s3 rz => ?_)
      cases rz
      exact ⟨j, k, rfl, rfl, q _ F3 H3 c3 (s1.trans (s2.trans s3)) (show V.bl (p2 j k) = V.bl (p1 i j && p2 j k) by rw [e]; rfl)⟩
    | false => exact iteF (q _ F2 H2 c2 (s1.trans s2) (show V.bl false = V.bl (p1 i j && p2 j k) by rw [e]; rfl))
theorem et_chain {p1 p2 : Int → Int → Bool} {i j k : Int} {tc : TE} (ha : Ev Γ Ω ta (I i)) (hb : Ev Γ Ω tb (I j)) (hc : Ev Γ Ω tc (I k)) : EvT Γ Ω (tTest (tChain (rI0 fun i j => .bl (p1 i j)) (rI0 fun i j => .bl (p2 i j)) ta tb tc)) (p1 i j && p2 j k) := et_test (ev_chain ha hb hc)
end
/-! ## blocks -/
section
variable {Z : Bs} {F H F' H' : Hp} {σ σ' : L2.St} {Γ Γ' : Gm} {Ω Ω' : Om} {K : PySem.W.Frag} {n : L2.St → Hp → Prop} {r : VK} {bk ct : L2.St → Hp → Prop} {t1 t2 : TS}
theorem sq (h : t1 ⟨t2 ⟨n, r, bk, ct⟩, r, bk, ct⟩ σ H) : tSeq t1 t2 ⟨n, r, bk, ct⟩ σ H := h
theorem cut {ι : Type} (c : Ctx Z F H σ Γ Ω) (G : ι → Gm) (O : ι → Om) (P : ι → Prop) (h1 : ∀ N : L2.St → Hp → Prop, (∀ i F' H' σ', P i → Ctx Z F' H' σ' (G i) (O i) → N σ' H') → t1 ⟨N, r, bk, ct⟩ σ H) (h2 : ∀ i F' H' σ', P i → Ctx Z F' H' σ' (G i) (O i) → t2 ⟨n, r, bk, ct⟩ σ' H') : tCut t1 t2 ⟨n, r, bk, ct⟩ σ H :=
  ⟨fun σ H => ∃ i F, P i ∧ Ctx Z F H σ (G i) (O i), h1 _ fun i F' H' σ' p c => ⟨i, F', p, c⟩, fun σ H ⟨i, F, p, c⟩ => h2 i F H σ p c⟩
/-- what is known of a slot is some member of a family -/
theorem Ctx.opn {β : Type} {P : β → Prop} {R : β → As} (c : Ctx Z F H σ Γ Ω) (i : Nat) (h : Γ[i]? = some (some (Xs P R))) : ∃ b, P b ∧ Ctx Z F H σ (Γ.set i (some (R b))) Ω := by
  obtain ⟨v, e, b, hp, hr⟩ := c.sat.get h
  have z := c.set i hr
  have e2 : σ.set i (some v) = σ := by
    apply List.ext_getElem?
    intro j
    by_cases hj : i = j
    · subst hj
      rw [List.getElem?_set_self (by have := (List.getElem?_eq_some_iff.mp e).1; exact this), e]
    · rw [List.getElem?_set_ne hj]
  rw [e2] at z
  exact ⟨b, hp, z⟩
theorem nxt (q : n σ H) : tNext ⟨n, r, bk, ct⟩ σ H := q
/-- an error of the text's own, made with a text -/
structure Xc (K : PySem.W.Frag) (mg : Str → Option Value) (C : Addr) (x : Str) : Prop where
  gC : mg x = some (.ref C)
  ex : PySem.W.excIn K C [.type "ValueError", .type "Exception", .type "BaseException", .type "object"] "ValueError.__new__" = true
  kC : PySem.W.keepIn K (.ref C) = true
  sB : PySem.W.subIn K (.ref C) (.type "BaseException") = some true
  tC : PySem.W.typeIn K (.ref C) = some (.type "type")
  iC : PySem.W.isClsIn K C = true
  sC : PySem.W.subIn K (.ref C) (.ref C) = some true
/-- an except clause that names an error's own class takes it -/
theorem exm_own {K : PySem.W.Frag} {S T : Addr} {b : Bool} (h1 : PySem.W.subIn K (.ref S) (.type "BaseException") = some true) (h1' : PySem.W.subIn K (.ref T) (.type "BaseException") = some true) (h2 : PySem.W.isClsIn K T = true) (h3 : PySem.W.typeIn K (.ref T) = some (.type "type")) (h4 : PySem.W.subIn K (.ref S) (.ref T) = some b) :
    PySem.W.exmOne K (.ref S) (.ref T) = some b := by
  have e1 : (PySem.W.subIn K (.ref T) (.type "BaseException") == some true) = true := by rw [h1'] <;> rfl
  have e2 : ((PySem.W.clsIn K T).isSome && PySem.W.typeIn K (.ref T) == some (.type "type")) = true := by
    have h2' : (PySem.W.clsIn K T).isSome = true := h2
    rw [h2', h3] <;> rfl
  show (if (PySem.W.subIn K (.ref T) (.type "BaseException") == some true) = true then (if ((PySem.W.clsIn K T).isSome && PySem.W.typeIn K (.ref T) == some (.type "type")) = true then PySem.W.subIn K (.ref S) (.ref T) else none) else none) = some b
  rw [if_pos e1, if_pos e2]
  exact h4
theorem st_tryset {α : Type} {args : α → List As} {pre good : α → Prop} {res : α → As} {C : Addr} {cl : Value} {ta : TA} {ts : Addr → Value → Option Addr → TS} {Wout : WX} {i : Nat} (a : α) (c : Ctx Z F H σ Γ Ω) (h : EvA Γ Ω ta (args a)) (hp : pre a) (te : PySem.W.exmOne K (.ref C) cl = some true)
    (k1 : good a → ∀ F' H' σ', Ctx Z F' H' σ' (Γ.set i (some (res a))) Ω → Same F F' → n σ' H') (k2 : ¬ good a → ∀ a0 F' H', Ctx Z F' H' σ Γ Ω → Same F F' → ts a0 (.ref C) none ⟨n, r, bk, ct⟩ σ H') :
    tAsg (tCallS (CtE args pre res good C) (WE (wOnly K cl ts Wout ⟨n, r, bk, ct⟩)) ta) (gName i) ⟨n, r, bk, ct⟩ σ H :=
  h Z F H σ c _ fun vs F1 H1 c1 s1 rs => ⟨a, F1, c1.sub, rs, hp, fun g v F2 H2 e2 s2 rv => k1 g F2 H2 _ ((c1.step e2 s2).set i rv) (s1.fe.trans e2.fe), fun g F2 H2 e2 s2 => ⟨true, te, fun _ a0 _ => k2 g a0 F2 H2 (c1.step e2 s2) (s1.fe.trans e2.fe), fun z => Bool.noConfusion z⟩⟩
end
theorem ev_k {Γ : Gm} {Ω : Om} {te : TE} {m n : Int} (h : Ev Γ Ω te (I m)) (e : m = n) : Ev Γ Ω te (I n) := e ▸ h
/-! ## the law -/
def LawSp (K : PySem.W.Frag) : Sp := CtF (fun ns : List Int => [Ls K (ns.map fun n => I n)]) (fun ns => ns.length ≤ 63) (fun _ => B true)
theorem all_ints {F : Hp} : ∀ ns : List Int, All F (ns.map fun n => I n) (ns.map V.int)
  | [] => trivial
  | _ :: r => ⟨rfl, all_ints r⟩
theorem law_start {K : PySem.W.Frag} {H : Hp} {a : Addr} {ns : List Int} (hl : ns.length ≤ 63) (hS : SqL K H a (ns.map V.int)) : LawSp K [.ref a] H (fun v _ => v = .bl true) (fun _ _ _ => False) :=
  ⟨ns, H, Same.refl H, ⟨⟨a, _, rfl, hS, all_ints ns⟩, trivial⟩, hl, fun v F' H' _ _ r => r⟩
end Y

namespace Y
open PySem L2
theorem gcd_turn {x y : Int} (hx : 0 ≤ x) (hy : 0 < y) : Int.gcd y (x % y) = Int.gcd x y := by
  obtain ⟨a, rfl⟩ := Int.eq_ofNat_of_zero_le hx
  obtain ⟨b, rfl⟩ := Int.eq_ofNat_of_zero_le (Int.le_of_lt hy)
  show Nat.gcd b (a % b) = Nat.gcd a b
  rw [Nat.gcd_comm b (a % b), ← Nat.gcd_rec, Nat.gcd_comm]
/-- the cell that a law draws by -/
def cell (ns : List Int) (k : Int) : Int := if k < (ns.length : Int) then ns.getD k.toNat 0 else 0
theorem atI_ints {ns : List Int} {k : Int} (h0 : 0 ≤ k) (h : k < (ns.length : Int)) : atI (ns.map fun n => I n) k = some (I (cell ns k)) := by
  have hk : k.toNat < ns.length := by omega
  have ek : k = ((k.toNat : Nat) : Int) := by omega
  have z : cell ns k = ns[k.toNat] := by
    unfold cell
    rw [if_pos h, List.getD_eq_getElem?_getD, List.getElem?_eq_getElem hk]; rfl
  rw [z]
  generalize hj : k.toNat = j at hk ek
  subst ek
  refine (atI_nat (xs := ns.map fun n => I n) (by rw [List.getElem?_map, List.getElem?_eq_getElem hk]; rfl)).trans ?_
  simp only [hj]
theorem bt_one (n : Nat) : Bt (n + 1) 1 := Nat.one_lt_two_pow (Nat.succ_ne_zero n)
theorem gcd_bt {x y : Int} {n : Nat} (h : Bt n y) (hy : y ≠ 0) : Bt n (Int.gcd x y : Int) := by
  have e := Nat.le_of_dvd (Int.natAbs_pos.mpr hy) (Int.natAbs_dvd_natAbs.mpr (Int.gcd_dvd_right x y))
  exact h.le e
theorem gcd_pos {x y : Int} (hy : y ≠ 0) : (0 : Int) < (Int.gcd x y : Int) := by
  have : Int.gcd x y ≠ 0 := fun e => hy (Int.gcd_eq_zero_iff.mp e).2
  omega
/-! fractions: a fraction is the rational number that it tells -/
def Fq (K : PySem.W.Frag) (r : Rat) : As := Fr K (r.num, (r.den : Int))
theorem ty_fq {K : PySem.W.Frag} {r : Rat} : HasTy K (Fq K r) (.type "tuple") := ty_tup
theorem rc_lenQ {K : PySem.W.Frag} {r : Rat} : RC (fun xs H Q => ∃ p ys, xs = [.ref p] ∧ (SqL K H p ys ∨ SqT K H p ys) ∧ Q (.int ys.length) H) [Fq K r] (I 2) := rc_lenT
def Sz (r : Rat) : Prop := Bt 4400 r.num ∧ Bt 4400 (r.den : Int)
theorem fr_of (t b : Int) (hb : 0 < b) : (t / (Int.gcd t b : Int), b / (Int.gcd t b : Int)) = ((Rat.divInt t b).num, ((Rat.divInt t b).den : Int)) := by
  have h1 : (Rat.divInt t b).num = t / (Int.gcd t b : Int) := by rw [Rat.num_divInt, Int.sign_eq_one_of_pos hb, Int.one_mul, Int.gcd_comm]
  have h2 : ((Rat.divInt t b).den : Int) = b / (Int.gcd t b : Int) := by
    rw [Rat.den_divInt, if_neg (by omega), Int.gcd_comm]
    rw [Int.natCast_ediv, Int.natAbs_of_nonneg (by omega)]
  rw [h1, h2]
theorem fr_neg (t b : Int) (hb : b < 0) : ((0 - t) / (Int.gcd (0 - t) (0 - b) : Int), (0 - b) / (Int.gcd (0 - t) (0 - b) : Int)) = ((Rat.divInt t b).num, ((Rat.divInt t b).den : Int)) := by
  have e : Rat.divInt t b = Rat.divInt (0 - t) (0 - b) := by rw [Int.zero_sub, Int.zero_sub, Rat.neg_divInt_neg]
  rw [e]
  exact fr_of _ _ (by omega)
theorem r_den0 (a : Rat) : (a.den : Int) ≠ 0 := by have := a.den_nz; omega
theorem r_den1 (a : Rat) : (0 : Int) < a.den := by have := a.den_nz; omega
theorem r_add (a b : Rat) : Rat.divInt (a.num * b.den + b.num * a.den) (a.den * b.den) = a + b := by
  have := Rat.divInt_add_divInt a.num b.num (r_den0 a) (r_den0 b)
  rw [← this, Rat.num_divInt_den, Rat.num_divInt_den]
theorem r_sub (a b : Rat) : Rat.divInt (a.num * b.den - b.num * a.den) (a.den * b.den) = a - b := by
  have := Rat.divInt_sub_divInt a.num b.num (r_den0 a) (r_den0 b)
  rw [← this, Rat.num_divInt_den, Rat.num_divInt_den]
theorem r_mul (a b : Rat) : Rat.divInt (a.num * b.num) (a.den * b.den) = a * b := by
  have := Rat.divInt_mul_divInt a.num b.num (d₁ := a.den) (d₂ := b.den)
  rw [← this, Rat.num_divInt_den, Rat.num_divInt_den]
theorem r_div (a b : Rat) : Rat.divInt (a.num * b.den) (a.den * b.num) = a / b := by
  have := Rat.divInt_mul_divInt a.num b.den (d₁ := a.den) (d₂ := b.num)
  rw [← this, Rat.num_divInt_den, Rat.div_def]
  congr 1
  rw [Rat.inv_def]
theorem r_lt (a b : Rat) : decide (a.num * b.den < b.num * a.den) = decide (a < b) := by simp [Rat.lt_iff]
theorem r_cross {t b : Int} (hb : b ≠ 0) : (Rat.divInt t b).num * b = t * ((Rat.divInt t b).den : Int) := (Rat.divInt_eq_divInt_iff (r_den0 _) hb).mp (Rat.num_divInt_den _)
theorem r_red (a : Rat) : Int.gcd a.num a.den = 1 := a.reduced
theorem Sz.int {n : Int} (h : Bt 4400 n) : Sz (n : Rat) := ⟨h, by show Bt 4400 1; unfold Bt; exact Nat.one_lt_two_pow (by decide)⟩
theorem bt_num {n : Nat} {t b : Int} (h : Bt n t) (hb : b ≠ 0) : Bt n (Rat.divInt t b).num := by
  rcases Int.lt_or_gt_of_ne hb with hn | hn
  · have e := congrArg Prod.fst (fr_neg t b hn)
    dsimp only at e
    rw [← e]
    exact h.neg.le (Int.natAbs_ediv_le_natAbs _ _)
  · have e := congrArg Prod.fst (fr_of t b hn)
    dsimp only at e
    rw [← e]
    exact h.le (Int.natAbs_ediv_le_natAbs _ _)
theorem bt_den {n : Nat} {t b : Int} (h : Bt n b) (hb : b ≠ 0) : Bt n ((Rat.divInt t b).den : Int) := by
  rcases Int.lt_or_gt_of_ne hb with hn | hn
  · have e := congrArg Prod.snd (fr_neg t b hn)
    dsimp only at e
    rw [← e]
    exact h.neg.le (Int.natAbs_ediv_le_natAbs _ _)
  · have e := congrArg Prod.snd (fr_of t b hn)
    dsimp only at e
    rw [← e]
    exact h.le (Int.natAbs_ediv_le_natAbs _ _)
/-- what a law builds: some fraction, not too long -/
def Bq (n : Nat) (r : Rat) : Prop := Bt n r.num ∧ Bt n (r.den : Int)
theorem Bq.sz {n : Nat} {r : Rat} (h : Bq n r) (l : n ≤ 4400 := by decide) : Sz r := ⟨h.1.up l, h.2.up l⟩
theorem Bq.up {n m : Nat} {r : Rat} (h : Bq n r) (l : n ≤ m := by decide) : Bq m r := ⟨h.1.up l, h.2.up l⟩
theorem Bq.add {n m : Nat} {a b : Rat} (h : Bq n a) (k : Bq m b) : Bq (n + m + 1) (a + b) := by
  rw [← r_add]
  have z : (a.den : Int) * b.den ≠ 0 := Int.mul_ne_zero (r_den0 a) (r_den0 b)
  have e := k.1.mul h.2
  rw [Nat.add_comm] at e
  exact ⟨bt_num ((h.1.mul k.2).add e) z, bt_den ((h.2.mul k.2).up (Nat.le_succ _)) z⟩
theorem Bq.sub {n m : Nat} {a b : Rat} (h : Bq n a) (k : Bq m b) : Bq (n + m + 1) (a - b) := by
  rw [← r_sub]
  have z : (a.den : Int) * b.den ≠ 0 := Int.mul_ne_zero (r_den0 a) (r_den0 b)
  have e := k.1.mul h.2
  rw [Nat.add_comm] at e
  exact ⟨bt_num ((h.1.mul k.2).sub e) z, bt_den ((h.2.mul k.2).up (Nat.le_succ _)) z⟩
theorem Bq.mul {n m : Nat} {a b : Rat} (h : Bq n a) (k : Bq m b) : Bq (n + m) (a * b) := by
  rw [← r_mul]
  have z : (a.den : Int) * b.den ≠ 0 := Int.mul_ne_zero (r_den0 a) (r_den0 b)
  exact ⟨bt_num (h.1.mul k.1) z, bt_den (h.2.mul k.2) z⟩
theorem Bq.div {n m : Nat} {a b : Rat} (h : Bq n a) (k : Bq m b) (hb : b ≠ 0) : Bq (n + m) (a / b) := by
  rw [← r_div]
  have z : (a.den : Int) * b.num ≠ 0 := Int.mul_ne_zero (r_den0 a) (fun e => hb (Rat.num_eq_zero.mp e))
  exact ⟨bt_num (h.1.mul k.2) z, bt_den (h.2.mul k.1) z⟩
def Sq (K : PySem.W.Frag) (n : Nat) : As := Xs (Bq n) (Fq K)
theorem sq_of {K : PySem.W.Frag} {n : Nat} {r : Rat} {F : Hp} {v : V} (h : (Fq K r).p F v) (b : Bq n r) : (Sq K n).p F v := ⟨r, b, h⟩
/-- a fraction handed out of two ints -/
theorem ev_fq {Γ : Gm} {Ω : Om} {K : PySem.W.Frag} {te : TE} {a b : Int} {r : Rat} (h : Ev Γ Ω te (Fr K (a, b))) (e : (a, b) = (r.num, (r.den : Int))) : Ev Γ Ω te (Fq K r) := by
  unfold Fq
  rw [← e]
  exact h
theorem ev_frI {Γ : Gm} {Ω : Om} {K : PySem.W.Frag} {ta : TA} {a : Int} (h : EvA Γ Ω ta [I a, I 1]) : Ev Γ Ω (tTup ta) (Fq K (a : Rat)) := ev_fr h
/-- the same fraction with the other sign -/
theorem fq_neg {K : PySem.W.Frag} {Γ : Gm} {Ω : Om} {te : TE} {x : Rat} (h : Ev Γ Ω te (Fr K (0 - x.num, (x.den : Int)))) : Ev Γ Ω te (Fq K (-x)) := ev_fq h (by
  rw [Int.zero_sub]; rfl)
theorem Bq.neg {n : Nat} {x : Rat} (h : Bq n x) : Bq n (-x) := ⟨by
  have e := h.1.neg
  rw [Int.zero_sub] at e; exact e, h.2⟩
theorem Bq.zero {n : Nat} : Bq (n + 1) 0 := ⟨Bt.zero, bt_one n⟩
end Y

namespace Y
open PySem L2
/-! ## lists: those that stand still, those that are owned -/
/-- what an owned list is known to hold -/
structure RdL (A : OA) (Rs : List As) : Prop where
  rd : ∀ F o, A.p F o → ∃ xs, o = .lst xs ∧ All F Rs xs
theorem rdL {Rs : List As} : RdL (oL Rs) Rs := ⟨fun _ _ h => h⟩
/-- just these values -/
def oX (xs : List V) (Rs : List As) : OA := ⟨fun F o => o = .lst xs ∧ All F Rs xs, fun s h => ⟨h.1, h.2.mono s⟩⟩
theorem rdX {xs : List V} {Rs : List As} : RdL (oX xs Rs) Rs := ⟨fun _ _ h => ⟨xs, h.1, h.2⟩⟩
def cutA (Rs : List As) (lo hi : Option Int) : List As := (Rs.drop (HT.sIx Rs.length 0 lo)).take (HT.sIx Rs.length Rs.length hi - HT.sIx Rs.length 0 lo)
theorem All.drop {F : Hp} : ∀ (n : Nat) {Rs : List As} {xs : List V}, All F Rs xs → All F (Rs.drop n) (xs.drop n)
  | 0, _, _, h => h
  | n + 1, [], [], _ => trivial
  | n + 1, _ :: _, _ :: _, h => All.drop n h.2
  | _ + 1, [], _ :: _, h => h.elim
  | _ + 1, _ :: _, [], h => h.elim
theorem All.take {F : Hp} : ∀ (n : Nat) {Rs : List As} {xs : List V}, All F Rs xs → All F (Rs.take n) (xs.take n)
  | 0, _, _, _ => trivial
  | n + 1, [], [], _ => trivial
  | n + 1, _ :: _, _ :: _, h => ⟨h.1, All.take n h.2⟩
  | _ + 1, [], _ :: _, h => h.elim
  | _ + 1, _ :: _, [], h => h.elim
theorem All.rev {F : Hp} : ∀ {Rs : List As} {xs : List V}, All F Rs xs → All F Rs.reverse xs.reverse
  | [], [], _ => trivial
  | R :: Rs, x :: xs, h => by
    rw [List.reverse_cons, List.reverse_cons]
    exact All.app (All.rev h.2) ⟨h.1, trivial⟩
  | [], _ :: _, h => h.elim
  | _ :: _, [], h => h.elim
section
variable {Z : Bs} {F H F' H' : Hp} {σ σ' : L2.St} {Γ Γ' : Gm} {Ω Ω' : Om} {K : PySem.W.Frag} {te ta tb : TE} {R Rx Ry : As} {Rs Ss : List As}
/-- an expression whose value is a list of such -/
def Lk (K : PySem.W.Frag) (Γ : Gm) (Ω : Om) (te : TE) (Rs : List As) : Prop := ∀ (Z : Bs) (F H : Hp) (σ : L2.St), Ctx Z F H σ Γ Ω → ∀ Q : VK, (∀ a F' H', Ctx Z F' H' σ Γ Ω → Ext [] F H F' H' → (∀ F2 H2, Ctx Z F2 H2 σ Γ Ω → Same F' F2 → ∃ xs, SqL K H2 a xs ∧ All F2 Rs xs) → Q (.ref a) H') → te σ H Q
theorem lk (h : Ev Γ Ω te (Ls K Rs)) : Lk K Γ Ω te Rs := fun Z F H σ c Q q => h Z F H σ c Q fun v F1 H1 c1 s1 r => by
  obtain ⟨a, xs, e, hs, hl⟩ := r
  subst e
  exact q a F1 H1 c1 s1 fun F2 H2 c2 s2 => ⟨xs, c2.sub.seq (s2.seq hs), hl.mono s2⟩
theorem lko {p : Addr} {A : OA} {j : Nat} (h : Ev Γ Ω te (Rf p)) (hm : Ω[j]? = some (p, A)) (hA : RdL A Rs) : Lk K Γ Ω te Rs := fun Z F H σ c Q q => h Z F H σ c Q fun v F1 H1 c1 s1 r => by
  cases r
  refine q p F1 H1 c1 s1 fun F2 H2 c2 s2 => ?_
  obtain ⟨_, o, h2, hp⟩ := c2.own _ (List.mem_of_getElem? hm)
  obtain ⟨xs, e, hl⟩ := hA.rd _ _ hp
  exact ⟨xs, SqL.of (by rw [h2, e]), hl⟩
theorem ev_ixLk {i : Int} (ha : Lk K Γ Ω ta Rs) (hb : Ev Γ Ω tb (I i)) (h : atI Rs i = some R) : Ev Γ Ω (tOp (rIxL K) ta tb) R := fun Z F H σ c Q q =>
  ha Z F H σ c _ fun a F1 H1 c1 s1 hs => hb Z F1 H1 σ c1 _ fun y F2 H2 c2 s2 ry => by
    obtain ⟨xs, hs2, hl⟩ := hs F2 H2 c2 s2.fe
    obtain ⟨v, e1, r⟩ := atI_all hl h
    exact ⟨a, xs, i, v, rfl, ry, hs2, e1, q v F2 H2 c2 (s1.trans s2) r⟩
theorem ev_lenLk (ha : Lk K Γ Ω ta Rs) : Ev Γ Ω (tCB (fun xs H Q => ∃ p ys, xs = [.ref p] ∧ (SqL K H p ys ∨ SqT K H p ys) ∧ Q (.int ys.length) H) (tCons ta tNil)) (I (Rs.length : Int)) := fun Z F H σ c Q q =>
  ha Z F H σ c _ fun a F1 H1 c1 s1 hs => by
    obtain ⟨xs, hs1, hl⟩ := hs F1 H1 c1 (Same.refl _)
    refine ⟨a, xs, rfl, .inl hs1, ?_⟩
    rw [hl.length]
    exact q _ F1 H1 c1 s1 rfl
theorem new_ls {p : Addr} {xs : List V} (c : Ctx Z F H σ Γ Ω) (hl : All F Rs xs) (hp : H p = none) : ∃ F' H', H' = upd H p (.lst xs) ∧ Ctx Z F' H' σ Γ Ω ∧ Ext [] F H F' H' ∧ (Ls K Rs).p F' (.ref p) := by
  obtain ⟨e, s⟩ := Ext.new (o := .lst xs) c.sub hp
  exact ⟨_, _, rfl, c.step e s, e, p, xs, rfl, SqL.of upd_same, hl.mono e.fe⟩
theorem ev_listLk (ha : Lk K Γ Ω ta Rs) : Ev Γ Ω (tCB (fun xs H Q => ∃ p ys, xs = [.ref p] ∧ (SqL K H p ys ∨ SqT K H p ys) ∧ ∀ l, H l = none → Q (.ref l) (upd H l (.lst ys))) (tCons ta tNil)) (Ls K Rs) := fun Z F H σ c Q q =>
  ha Z F H σ c _ fun a F1 H1 c1 s1 hs => by
    obtain ⟨xs, hs1, hl⟩ := hs F1 H1 c1 (Same.refl _)
    refine ⟨a, xs, rfl, .inl hs1, fun p hp => ?_⟩
    obtain ⟨F2, H2, e, c2, s2, r⟩ := new_ls (K := K) c1 hl hp
    rw [← e]
    exact q _ F2 H2 c2 (s1.trans s2) r
theorem ev_rev (ha : Lk K Γ Ω ta Rs) : Ev Γ Ω (tRevL K ta) (Ls K Rs.reverse) := fun Z F H σ c Q q =>
  ha Z F H σ c _ fun a F1 H1 c1 s1 hs => by
    obtain ⟨xs, hs1, hl⟩ := hs F1 H1 c1 (Same.refl _)
    refine ⟨a, xs, rfl, hs1, fun p hp => ?_⟩
    obtain ⟨F2, H2, e, c2, s2, r⟩ := new_ls (K := K) c1 hl.rev hp
    rw [← e]
    exact q _ F2 H2 c2 (s1.trans s2) r
def EvO (Γ : Gm) (Ω : Om) (to : TO) (o : Option Int) : Prop := ∀ (Z : Bs) (F H : Hp) (σ : L2.St), Ctx Z F H σ Γ Ω → ∀ Q : Option Int → Hp → Prop, (∀ F' H', Ctx Z F' H' σ Γ Ω → Ext [] F H F' H' → Q o H') → to σ H Q
theorem eo_none : EvO Γ Ω tNoPart none := fun Z F H σ c Q q => q F H c (Ext.refl _ _ _)
theorem eo_some {i : Int} (h : Ev Γ Ω te (I i)) : EvO Γ Ω (tPart te) (some i) := fun Z F H σ c Q q => h Z F H σ c _ fun v F1 H1 c1 s1 r => ⟨i, r, q F1 H1 c1 s1⟩
theorem ev_slLk {tl th : TO} {lo hi : Option Int} (ha : Lk K Γ Ω ta Rs) (h1 : EvO Γ Ω tl lo) (h2 : EvO Γ Ω th hi) : Ev Γ Ω (tSl (rSlL K) ta tl th) (Ls K (cutA Rs lo hi)) := fun Z F H σ c Q q =>
  ha Z F H σ c _ fun a F1 H1 c1 s1 hs => h1 Z F1 H1 σ c1 _ fun F2 H2 c2 s2 => h2 Z F2 H2 σ c2 _ fun F3 H3 c3 s3 => by
    obtain ⟨xs, hs1, hl⟩ := hs F3 H3 c3 (s2.trans s3).fe
    refine ⟨a, xs, rfl, hs1, fun p hp => ?_⟩
    have hz : All F3 (cutA Rs lo hi) (cutV xs lo hi) := by
      unfold cutA cutV
      rw [hl.length]
      exact (hl.drop _).take _
    obtain ⟨F4, H4, e, c4, s4, r⟩ := new_ls (K := K) c3 hz hp
    rw [← e]
    exact q _ F4 H4 c4 (s1.trans (s2.trans (s3.trans s4))) r
theorem cutA_to {α : Type} {f : α → As} {xs : List α} {k : Nat} : cutA (xs.map f) none (some (k : Int)) = (xs.take k).map f := by
  unfold cutA
  rw [HT.sIx_nat, HT.sIx_none, List.length_map, List.drop_zero, Nat.sub_zero, List.map_take]
  by_cases h : k ≤ xs.length
  · rw [Nat.min_eq_left h]
  · rw [Nat.min_eq_right (by omega), List.take_of_length_le (by rw [List.length_map]; omega), List.take_of_length_le (by rw [List.length_map]; omega)]
theorem cutA_most {α : Type} {f : α → As} {xs : List α} : cutA (xs.map f) none (some (-1)) = xs.dropLast.map f := by
  unfold cutA HT.sIx
  simp only [List.length_map, List.drop_zero, Nat.sub_zero]
  rw [if_pos (by decide), List.dropLast_eq_take, ← List.map_take]
  congr 2
  omega
end
/-! ## lists that are made and grow -/
section
variable {Z : Bs} {F H F' H' : Hp} {σ σ' : L2.St} {Γ Γ' : Gm} {Ω Ω' : Om} {K : PySem.W.Frag} {te ta tb : TE} {R Rx Ry : As} {Rs Ss : List As} {n : L2.St → Hp → Prop} {r : VK} {bk ct : L2.St → Hp → Prop}
theorem Ctx.grow {p : Addr} {o : HO} {A : OA} (c : Ctx Z F H σ Γ Ω) (hp : H p = none) (hA : A.p F o) : Ctx Z F (upd H p o) σ Γ ((p, A) :: Ω) := by
  have e := Ext.newH (F := F) (o := o) hp
  have hf : F p = none := c.sub.free hp
  have np : ∀ x ∈ Ω, x.1 ≠ p := fun x hx z => by
    obtain ⟨_, o', h2, _⟩ := c.own x hx
    rw [z, hp] at h2
    cases h2
  refine ⟨c.sat, fun a u q => ?_, fun x hx => ?_, ?_, fun x hx => ?_, c.ext.trans (e.wid fun _ h => absurd h List.not_mem_nil), c.pin⟩
  · rw [upd_ne (ne_of_none q hf)]
    exact c.sub a u q
  · rcases List.mem_cons.mp hx with z | hx
    · subst z
      exact ⟨hf, o, upd_same, hA⟩
    · obtain ⟨h1, o', h2, h3⟩ := c.own x hx
      exact ⟨h1, o', by rw [upd_ne (np x hx)]; exact h2, h3⟩
  · rw [List.map_cons, List.nodup_cons]
    refine ⟨fun hx => ?_, c.nd⟩
    obtain ⟨x, hx, z⟩ := List.mem_map.mp hx
    exact np x hx z
  · rcases List.mem_cons.mp hx with z | hx
    · subst z
      exact .inr (.inl (c.ext.dm _ hp))
    · exact c.loc x hx
theorem Ctx.wr {p : Addr} {A : OA} {j : Nat} (c : Ctx Z F H σ Γ Ω) (hm : Ω[j]? = some (p, A)) (hro : Z.ro = []) : p ∈ Z.ft ∨ Z.H p = none := by
  rcases c.loc _ (List.mem_of_getElem? hm) with l | l | l
  · exact .inl l
  · exact .inr l
  · rw [hro] at l
    exact absurd l List.not_mem_nil
/-- what is owned changes -/
theorem Ctx.chg {p : Addr} {o : HO} {A A' : OA} {j : Nat} (c : Ctx Z F H σ Γ Ω) (hm : Ω[j]? = some (p, A)) (hA : A'.p F o) (hw : p ∈ Z.ft ∨ Z.H p = none) : Ctx Z F (upd H p o) σ Γ (Ω.set j (p, A')) := by
  have hmem := List.mem_of_getElem? hm
  have hj : j < Ω.length := (List.getElem?_eq_some_iff.mp hm).1
  obtain ⟨hf, o0, h0, _⟩ := c.own _ hmem
  have other : ∀ (i : Nat) (x : Addr × OA), i ≠ j → Ω[i]? = some x → x.1 ≠ p := fun i x hi hx z => by
    have a1 : (Ω.map (·.1))[i]? = some p := by rw [List.getElem?_map, hx, ← z]; rfl
    have a2 : (Ω.map (·.1))[j]? = some p := by rw [List.getElem?_map, hm]; rfl
    exact hi (nd_ix c.nd a1 a2)
  have look : ∀ x ∈ Ω.set j (p, A'), x = (p, A') ∨ (x ∈ Ω ∧ x.1 ≠ p) := fun x hx => by
    obtain ⟨i, hi⟩ := List.getElem?_of_mem hx
    by_cases z : j = i
    · subst z
      rw [List.getElem?_set_self hj] at hi
      exact .inl (Option.some.inj hi).symm
    · rw [List.getElem?_set_ne z] at hi
      exact .inr ⟨List.mem_of_getElem? hi, other i x (Ne.symm z) hi⟩
  refine ⟨c.sat, fun a u q => ?_, fun x hx => ?_, ?_, fun x hx => ?_, ?_, c.pin⟩
  · rw [upd_ne (ne_of_none q hf)]
    exact c.sub a u q
  · rcases look x hx with z | ⟨hx, z⟩
    · subst z
      exact ⟨hf, o, upd_same, hA⟩
    · obtain ⟨h1, o', h2, h3⟩ := c.own x hx
      exact ⟨h1, o', by rw [upd_ne z]; exact h2, h3⟩
  · rw [List.map_set]
    have e : (Ω.map (·.1)).set j p = Ω.map (·.1) := by
      have a2 : (Ω.map (·.1))[j]? = some p := by rw [List.getElem?_map, hm]; rfl
      apply List.ext_getElem?
      intro i
      by_cases z : j = i
      · subst z
        rw [List.getElem?_set_self (by rw [List.length_map]; exact hj), a2]
      · rw [List.getElem?_set_ne z]
    rw [e]
    exact c.nd
  · rcases look x hx with z | ⟨hx, z⟩
    · subst z
      exact (c.loc _ hmem : p ∈ _ ∨ _)
    · exact c.loc x hx
  · have l := hw
    refine ⟨c.ext.fe, fun a u q na => ?_, fun a q => ?_, c.ext.nw⟩
    · have z : a ≠ p := fun z => by
        subst z
        rcases l with l | l
        · exact na l
        · rw [l] at q; cases q
      rw [upd_ne z]
      exact c.ext.fr a u q na
    · by_cases z : a = p
      · subst z
        rw [upd_same] at q
        cases q
      · rw [upd_ne z] at q
        exact c.ext.dm a q
/-- an owned list that nobody changes any more -/
theorem Ctx.frz {p : Addr} {Rs : List As} {A : OA} {j : Nat} (c : Ctx Z F H σ Γ Ω) (hm : Ω[j]? = some (p, A)) (hA : RdL A Rs) (hz : Z.ft = []) (hro : Z.ro = []) : ∃ F', Same F F' ∧ Ctx Z F' H σ Γ (Ω.eraseIdx j) ∧ (Ls K Rs).p F' (.ref p) := by
  have hmem := List.mem_of_getElem? hm
  have hj : j < Ω.length := (List.getElem?_eq_some_iff.mp hm).1
  obtain ⟨hf, o0, h0, hA0⟩ := c.own _ hmem
  obtain ⟨xs, e, hl⟩ := hA.rd _ _ hA0
  dsimp only at hf h0
  have s : Same F (upd F p (.lst xs)) := fun a u q => by rw [upd_ne (ne_of_none q hf)]; exact q
  have hzp : Z.H p = none := by
    rcases c.wr hm hro with l | l
    · rw [hz] at l; exact absurd l List.not_mem_nil
    · exact l
  have other : ∀ x ∈ Ω.eraseIdx j, x ∈ Ω ∧ x.1 ≠ p := fun x hx => by
    have hx' := List.mem_of_mem_eraseIdx hx
    refine ⟨hx', fun z => ?_⟩
    have nd2 : ((Ω.eraseIdx j).map (·.1)).Nodup := (List.eraseIdx_sublist Ω j).map _ |>.nodup c.nd
    obtain ⟨i, hi⟩ := List.getElem?_of_mem hx
    rw [List.getElem?_eraseIdx] at hi
    split at hi
    · have a1 : (Ω.map (·.1))[i]? = some p := by rw [List.getElem?_map, hi, ← z]; rfl
      have a2 : (Ω.map (·.1))[j]? = some p := by rw [List.getElem?_map, hm]; rfl
      have := nd_ix c.nd a1 a2
      omega
    · have a1 : (Ω.map (·.1))[i + 1]? = some p := by rw [List.getElem?_map, hi, ← z]; rfl
      have a2 : (Ω.map (·.1))[j]? = some p := by rw [List.getElem?_map, hm]; rfl
      have := nd_ix c.nd a1 a2
      omega
  refine ⟨upd F p (.lst xs), s, ⟨c.sat.mono s, fun a u q => ?_, fun x hx => ?_, ((List.eraseIdx_sublist Ω j).map _).nodup c.nd, fun x hx => c.loc x (other x hx).1, ⟨c.ext.fe.trans s, c.ext.fr, c.ext.dm, fun a h1 h2 => ?_⟩, c.pin.trans s⟩, p, xs, rfl, SqL.of upd_same, hl.mono s⟩
  · by_cases z : a = p
    · subst z
      rw [upd_same] at q
      rw [h0, e]
      exact q
    · rw [upd_ne z] at q
      exact c.sub a u q
  · obtain ⟨hx1, hx2⟩ := other x hx
    obtain ⟨h1, o', h2, h3⟩ := c.own x hx1
    exact ⟨by rw [upd_ne hx2]; exact h1, o', h2, x.2.mono s h3⟩
  · have z : a ≠ p := fun z => h1 (by rw [z]; exact hzp)
    rw [upd_ne z]
    exact c.ext.nw a h1 h2
theorem st_asgX {β : Type} {P : β → Prop} {Rb : β → As} {g : TG} {G' : β → Gm} {ws : List Nat} (c : Ctx Z F H σ Γ Ω) (e : Ev Γ Ω te (Xs P Rb)) (hg : ∀ b, Gt Γ (Rb b) g (G' b) ws) (k : ∀ b F' H' σ', P b → Ctx Z F' H' σ' (G' b) Ω → Same F F' → n σ' H') : tAsg te g ⟨n, r, bk, ct⟩ σ H :=
  e Z F H σ c _ fun v F1 H1 c1 s1 rv => by
    obtain ⟨b, hb, rv⟩ := rv
    exact hg b Z F1 H1 σ v Ω c1 rv _ fun σ' c2 _ => k b F1 H1 σ' hb c2 s1.fe
theorem ev_eqB {a b : Bool} (ha : Ev Γ Ω ta (B a)) (hb : Ev Γ Ω tb (B b)) : Ev Γ Ω (tOp rEq ta tb) (B (decide (a = b))) := ev_op ha hb fun F H x y s e e' Q q => by
  cases e; cases e'
  refine ⟨rfl, ?_⟩
  have z : decide (V.bl a = V.bl b) = decide (a = b) := by simp
  rw [z]
  exact q _ F H (Ext.refl _ _ _) s rfl
theorem ev_eqS {a b : Str} (ha : Ev Γ Ω ta (S a)) (hb : Ev Γ Ω tb (S b)) : Ev Γ Ω (tOp rEq ta tb) (B (decide (a = b))) := ev_op ha hb fun F H x y s e e' Q q => by
  cases e; cases e'
  refine ⟨rfl, ?_⟩
  have z : decide (V.str a = V.str b) = decide (a = b) := by simp
  rw [z]
  exact q _ F H (Ext.refl _ _ _) s rfl
theorem ev_neS {a b : Str} (ha : Ev Γ Ω ta (S a)) (hb : Ev Γ Ω tb (S b)) : Ev Γ Ω (tOp rNe ta tb) (B (!decide (a = b))) := ev_op ha hb fun F H x y s e e' Q q => by
  cases e; cases e'
  refine ⟨rfl, ?_⟩
  have z : decide (V.str a = V.str b) = decide (a = b) := by simp
  rw [z]
  exact q _ F H (Ext.refl _ _ _) s rfl
theorem st_forT {ι α : Type} {tl : TE} {g : TG} {tb : TS} {xs : List α} {f : α → As} (G : ι → Gm) (G' : α → ι → Gm) (O : ι → Om) (P : Nat → ι → Prop) {ws : List Nat} (i0 : ι) (c : Ctx Z F H σ (G i0) (O i0)) (e : Ev (G i0) (O i0) tl (Tp K (xs.map f))) (p0 : P 0 i0)
    (hg : ∀ x i, Gt (G i) (f x) g (G' x i) ws)
    (body : ∀ k x i G1 F H σ (N : St → Hp → Prop), xs[k]? = some x → P k i → Ctx (Z.pin G1) F H σ (G' x i) (O i) → (∀ j F' H' σ', P (k + 1) j → Ctx (Z.pin G1) F' H' σ' (G j) (O j) → N σ' H') → tb ⟨N, r, n, N⟩ σ H)
    (hd : ∀ i F H σ, P xs.length i → Ctx Z F H σ (G i) (O i) → n σ H) : tFor (iTup K tl) g tb ⟨n, r, bk, ct⟩ σ H := by
  refine e Z F H σ c _ fun v F1 H1 c1 s1 rv => ?_
  obtain ⟨a, ys, ea, hs, hl⟩ := rv
  have hlen : ys.length = xs.length := by rw [hl.length, List.length_map]
  refine ⟨a, ea, ⟨ys, same_seqT c1.sub hs⟩, for_tup (K := K) (a := a) (xs := ys) (fun k σ H => ∃ i F, P k i ∧ Ctx (Z.pin F1) F H σ (G i) (O i)) ⟨i0, F1, p0, c1.topin (Same.refl _)⟩ (fun k σ H _ ⟨i, F, _, cc⟩ => same_seqT cc.sub (same_seqT cc.pin hs)) ?_ ?_⟩
  · rintro k y σ H hy ⟨i, F, p, cc⟩
    have hk : k < xs.length := by rw [← hlen]; exact (List.getElem?_eq_some_iff.mp hy).1
    have hx : xs[k]? = some xs[k] := List.getElem?_eq_getElem hk
    have hz : (xs.map f)[k]? = some (f xs[k]) := by rw [List.getElem?_map, hx]; rfl
    obtain ⟨y', ey, ry⟩ := hl.get hz
    rw [hy] at ey
    cases ey
    refine hg xs[k] i (Z.pin F1) F H σ y (O i) cc ((f xs[k]).mono cc.pin ry) _ fun σ' c' _ => ?_
    exact body k xs[k] i F1 F H σ' _ hx p c' fun j F' H' σ'' pj cj => ⟨j, F', pj, cj⟩
  · rintro σ H ⟨i, F, p, cc⟩
    rw [hlen] at p
    exact hd i F H σ p (cc.unpin c1.pin)
theorem ev_ls2 {Rs' : List As} (h : Ev Γ Ω te (Ls K Rs)) (e : Rs = Rs') : Ev Γ Ω te (Ls K Rs') := e ▸ h
/-- x = [] of a list that will grow -/
theorem st_nil {i : Nat} (c : Ctx Z F H σ Γ Ω) (k : ∀ p F' H' σ', Ctx Z F' H' σ' (Γ.set i (some (Rf p))) ((p, oL []) :: Ω) → Same F F' → n σ' H') : tAsg (tLst tNil) (gName i) ⟨n, r, bk, ct⟩ σ H :=
  ⟨Nat.zero_le _, fun p hp => k p F _ _ ((c.grow (A := oL []) hp ⟨[], rfl, trivial⟩).set i rfl) (Same.refl _)⟩
/-- x.append(e), x owned -/
theorem st_app {p : Addr} {j : Nat} (c : Ctx Z F H σ Γ Ω) (h : Ev Γ Ω ta (Rf p)) (hm : Ω[j]? = some (p, oL Rs)) (e : Ev Γ Ω te R) (hl : Rs.length ≤ 100000) (k : ∀ F' H', Ctx Z F' H' σ Γ (Ω.set j (p, oL (Rs ++ [R]))) → Same F F' → n σ H') (hro : Z.ro = [] := by rfl) :
    tDrop (tBM K "list" rAppend ta (tCons te tNil)) ⟨n, r, bk, ct⟩ σ H :=
  h Z F H σ c _ fun v F1 H1 c1 s1 rv => by
    cases rv
    obtain ⟨_, o, h2, xs, eo, hx⟩ := c1.own _ (List.mem_of_getElem? hm)
    refine ⟨.inl ⟨rfl, _, SqL.of (by rw [h2, eo])⟩, ?_⟩
    refine e Z F1 H1 σ c1 _ fun y F2 H2 c2 s2 ry => ?_
    obtain ⟨_, o, h2, xs, eo, hx⟩ := c2.own _ (List.mem_of_getElem? hm)
    refine ⟨p, xs, y, rfl, rfl, by rw [h2, eo], ?_, ?_⟩
    · rw [hx.length]
      exact Nat.lt_of_le_of_lt hl (by decide)
    · exact k F2 _ (c2.chg hm ⟨_, rfl, hx.app ⟨ry, trivial⟩⟩ (c2.wr hm hro)) (s1.trans s2).fe
theorem st_appX {β : Type} {P : β → Prop} {Rb : β → As} {p : Addr} {j : Nat} (c : Ctx Z F H σ Γ Ω) (h : Ev Γ Ω ta (Rf p)) (hm : Ω[j]? = some (p, oL Rs)) (e : Ev Γ Ω te (Xs P Rb)) (hl : Rs.length ≤ 100000) (k : ∀ b F' H', P b → Ctx Z F' H' σ Γ (Ω.set j (p, oL (Rs ++ [Rb b]))) → Same F F' → n σ H') (hro : Z.ro = [] := by rfl) :
    tDrop (tBM K "list" rAppend ta (tCons te tNil)) ⟨n, r, bk, ct⟩ σ H :=
  h Z F H σ c _ fun v F1 H1 c1 s1 rv => by
    cases rv
    obtain ⟨_, o, h2, xs, eo, hx⟩ := c1.own _ (List.mem_of_getElem? hm)
    refine ⟨.inl ⟨rfl, _, SqL.of (by rw [h2, eo])⟩, ?_⟩
    refine e Z F1 H1 σ c1 _ fun y F2 H2 c2 s2 ry => ?_
    obtain ⟨b, hb, ry⟩ := ry
    obtain ⟨_, o, h2, xs, eo, hx⟩ := c2.own _ (List.mem_of_getElem? hm)
    refine ⟨p, xs, y, rfl, rfl, by rw [h2, eo], ?_, ?_⟩
    · rw [hx.length]
      exact Nat.lt_of_le_of_lt hl (by decide)
    · exact k b F2 _ hb (c2.chg hm ⟨_, rfl, hx.app ⟨ry, trivial⟩⟩ (c2.wr hm hro)) (s1.trans s2).fe
/-- return x, x owned -/
theorem st_retL {p : Addr} {A : OA} {j : Nat} (c : Ctx Z F H σ Γ Ω) (h : Ev Γ Ω te (Rf p)) (hm : Ω[j]? = some (p, A)) (hA : RdL A Rs) (hz : Z.ft = []) (k : ∀ v F' H', Ctx Z F' H' σ Γ (Ω.eraseIdx j) → Same F F' → (Ls K Rs).p F' v → r v H') (hro : Z.ro = [] := by rfl) : tRet te ⟨n, r, bk, ct⟩ σ H :=
  h Z F H σ c _ fun v F1 H1 c1 s1 rv => by
    cases rv
    obtain ⟨F2, s2, c2, q⟩ := c1.frz (K := K) hm hA hz hro
    exact k _ F2 H1 c2 (s1.fe.trans s2) q
end
/-! ## == of data -/
structure IsD (K : PySem.W.Frag) (R : As) (d : PyData) : Prop where
  dp : ∀ F H v, Same F H → R.p F v → Dp K H v d
def AllD (K : PySem.W.Frag) : List As → List PyData → Prop
  | [], [] => True
  | R :: Rs, d :: ds => IsD K R d ∧ AllD K Rs ds
  | _, _ => False
/-- it can be compared: its depth is at most k -/
def Gd (k : Nat) (d : PyData) : Prop := d.canLay0 = true ∧ d.depth ≤ k
theorem gd_all : ∀ {ds : List PyData} {k : Nat}, (∀ d ∈ ds, Gd k d) → PyData.canLayAll0 ds = true ∧ PyData.depthAll ds ≤ k
  | [], k, _ => ⟨rfl, Nat.zero_le _⟩
  | d :: ds, k, h => by
    obtain ⟨h1, h2⟩ := h d List.mem_cons_self
    obtain ⟨h3, h4⟩ := gd_all (k := k) fun d' hd => h d' (List.mem_cons_of_mem _ hd)
    refine ⟨?_, ?_⟩
    · show (d.canLay0 && PyData.canLayAll0 ds) = true
      rw [h1, h3]; rfl
    · show max d.depth (PyData.depthAll ds) ≤ k
      omega
theorem gd_list {ds : List PyData} {k : Nat} (h : ∀ d ∈ ds, Gd k d) : Gd (k + 1) (.list ds) := ⟨(gd_all h).1, Nat.succ_le_succ (gd_all h).2⟩
theorem gd_tup {ds : List PyData} {k : Nat} (h : ∀ d ∈ ds, Gd k d) : Gd (k + 1) (.tuple ds) := ⟨(gd_all h).1, Nat.succ_le_succ (gd_all h).2⟩
theorem gd_int {n : Int} : Gd 0 (.int n) := ⟨rfl, Nat.le_refl _⟩
theorem Gd.shaped {d : PyData} {k : Nat} (h : Gd k d) (l : k ≤ 64 := by decide) : SeqAt.shaped d = true := by
  unfold SeqAt.shaped
  rw [h.1, Bool.true_and]
  exact decide_eq_true (Nat.le_trans h.2 l)
section
variable {K : PySem.W.Frag} {F H : Hp}
theorem isd_int {n : Int} : IsD K (I n) (.int n) := ⟨fun F H v s e => by cases e; exact .int n⟩
theorem isd_bool {b : Bool} : IsD K (B b) (.bool b) := ⟨fun F H v s e => by cases e; exact .bl b⟩
theorem isd_str {x : Str} : IsD K (S x) (.str x) := ⟨fun F H v s e => by cases e; exact .str x⟩
theorem isd_non : IsD K Nn .none := ⟨fun F H v s e => by cases e; exact .non⟩
theorem dpall : ∀ {Rs : List As} {ds : List PyData} {xs : List V}, AllD K Rs ds → Same F H → All F Rs xs → DpAll K H xs ds
  | [], [], [], _, _, _ => .nil
  | R :: Rs, d :: ds, x :: xs, h, s, a => .cons (h.1.dp F H x s a.1) (dpall h.2 s a.2)
  | [], _ :: _, _, h, _, _ => h.elim
  | _ :: _, [], _, h, _, _ => h.elim
  | [], [], _ :: _, _, _, a => a.elim
  | _ :: _, _ :: _, [], _, _, a => a.elim
theorem isd_tup {Rs : List As} {ds : List PyData} (h : AllD K Rs ds) : IsD K (Tp K Rs) (.tuple ds) := ⟨fun F H v s e => by
  obtain ⟨a, xs, e, hs, hl⟩ := e
  subst e
  exact .tup (same_seqT s hs) (dpall h s hl)⟩
theorem isd_lst {Rs : List As} {ds : List PyData} (h : AllD K Rs ds) : IsD K (Ls K Rs) (.list ds) := ⟨fun F H v s e => by
  obtain ⟨a, xs, e, hs, hl⟩ := e
  subst e
  exact .lst (s.seq hs) (dpall h s hl)⟩
theorem alld_map {α : Type} {f : α → As} {d : α → PyData} (h : ∀ x, IsD K (f x) (d x)) : ∀ xs : List α, AllD K (xs.map f) (xs.map d)
  | [] => trivial
  | x :: xs => ⟨h x, alld_map h xs⟩
/-- how data of a kind are told, and that == tells them apart -/
structure Kd (K : PySem.W.Frag) {α : Type} (f : α → As) (d : α → PyData) (k : Nat) : Prop where
  is : ∀ x, IsD K (f x) (d x)
  gd : ∀ x, Gd k (d x)
  eq : ∀ x y, PyData.eqv (d x) (d y) = true ↔ x = y
theorem kd_int : Kd K (fun n => I n) PyData.int 0 := ⟨fun _ => isd_int, fun _ => gd_int, fun x y => by simp [PyData.eqv]⟩
theorem kd_pair : Kd K (Fr K) (fun q => .tuple [.int q.1, .int q.2]) 1 := ⟨fun q => isd_tup ⟨isd_int, isd_int, trivial⟩, fun q => gd_tup fun d hd => by
    rcases List.mem_cons.mp hd with z | hd
    · subst z; exact gd_int
    · rcases List.mem_cons.mp hd with z | hd
      · subst z; exact gd_int
      · exact absurd hd List.not_mem_nil, fun x y => by
    obtain ⟨a, b⟩ := x
    obtain ⟨c, d⟩ := y
    simp [PyData.eqv, PyData.eqvAll]⟩
theorem fq_inj {x y : Rat} (h1 : x.num = y.num) (h2 : (x.den : Int) = y.den) : x = y := by
  rw [← Rat.num_divInt_den x, ← Rat.num_divInt_den y, h1, h2]
theorem kd_fq : Kd K (Fq K) (fun q => .tuple [.int q.num, .int q.den]) 1 := ⟨fun q => kd_pair.is _, fun q => (kd_pair (K := K)).gd (q.num, (q.den : Int)), fun x y => by
    have e := kd_pair (K := K) |>.eq (x.num, (x.den : Int)) (y.num, (y.den : Int))
    refine e.trans ⟨fun h => ?_, fun h => by rw [h]⟩
    exact fq_inj (congrArg Prod.fst h) (congrArg Prod.snd h)⟩
theorem eqv_map {α : Type} {d : α → PyData} (h : ∀ x y, PyData.eqv (d x) (d y) = true ↔ x = y) : ∀ xs ys : List α, PyData.eqvAll (xs.map d) (ys.map d) = true ↔ xs = ys
  | [], [] => ⟨fun _ => rfl, fun _ => rfl⟩
  | [], _ :: _ => ⟨(fun h => by cases h), (fun h => by cases h)⟩
  | _ :: _, [] => ⟨(fun h => by cases h), (fun h => by cases h)⟩
  | x :: xs, y :: ys => by
    show (PyData.eqv (d x) (d y) && PyData.eqvAll (xs.map d) (ys.map d)) = true ↔ _
    rw [Bool.and_eq_true, h, eqv_map h xs ys, List.cons.injEq]
theorem kd_list {α : Type} {f : α → As} {d : α → PyData} {k : Nat} (h : Kd K f d k) : Kd K (fun xs : List α => Ls K (xs.map f)) (fun xs => .list (xs.map d)) (k + 1) :=
  ⟨fun xs => isd_lst (alld_map h.is xs), fun xs => gd_list fun d' hd => by
    obtain ⟨x, _, e⟩ := List.mem_map.mp hd
    subst e; exact h.gd x, fun xs ys => eqv_map h.eq xs ys⟩
variable {Γ : Gm} {Ω : Om} {ta tb : TE} {R Rx Ry : As}
theorem ev_eqD {d e : PyData} {k m : Nat} (ha : Ev Γ Ω ta Rx) (hb : Ev Γ Ω tb Ry) (h1 : IsD K Rx d) (h2 : IsD K Ry e) (g1 : Gd k d) (g2 : Gd m e) (l1 : k ≤ 64 := by decide) (l2 : m ≤ 64 := by decide) : Ev Γ Ω (tOp (rEqD K) ta tb) (B (PyData.eqv d e)) :=
  ev_op ha hb fun F H x y s rx ry Q q => ⟨d, e, h1.dp F H x s rx, h2.dp F H y s ry, g1.shaped l1, g2.shaped l2, q _ F H (Ext.refl _ _ _) s rfl⟩
theorem ev_neD {d e : PyData} {k m : Nat} (ha : Ev Γ Ω ta Rx) (hb : Ev Γ Ω tb Ry) (h1 : IsD K Rx d) (h2 : IsD K Ry e) (g1 : Gd k d) (g2 : Gd m e) (l1 : k ≤ 64 := by decide) (l2 : m ≤ 64 := by decide) : Ev Γ Ω (tOp (rNeD K) ta tb) (B (!PyData.eqv d e)) :=
  ev_op ha hb fun F H x y s rx ry Q q => ⟨d, e, h1.dp F H x s rx, h2.dp F H y s ry, g1.shaped l1, g2.shaped l2, q _ F H (Ext.refl _ _ _) s rfl⟩
theorem ev_eqK {α : Type} [DecidableEq α] {f : α → As} {d : α → PyData} {k : Nat} {x y : α} (h : Kd K f d k) (ha : Ev Γ Ω ta (f x)) (hb : Ev Γ Ω tb (f y)) (l : k ≤ 64 := by decide) : Ev Γ Ω (tOp (rEqD K) ta tb) (B (decide (x = y))) :=
  ev_is (ev_eqD ha hb (h.is x) (h.is y) (h.gd x) (h.gd y) l l) (congrArg (fun b => B b) (by rw [Bool.eq_iff_iff, h.eq, decide_eq_true_iff]))
theorem ev_neK {α : Type} [DecidableEq α] {f : α → As} {d : α → PyData} {k : Nat} {x y : α} (h : Kd K f d k) (ha : Ev Γ Ω ta (f x)) (hb : Ev Γ Ω tb (f y)) (l : k ≤ 64 := by decide) : Ev Γ Ω (tOp (rNeD K) ta tb) (B (!decide (x = y))) :=
  ev_is (ev_neD ha hb (h.is x) (h.is y) (h.gd x) (h.gd y) l l) (congrArg (fun b => B (!b)) (by rw [Bool.eq_iff_iff, h.eq, decide_eq_true_iff]))
end
/-- a list, owned or not, against the list without items -/
theorem eqv_nil {ds : List PyData} : PyData.eqv (.list ds) (.list []) = decide (ds = []) := by
  cases ds with
  | nil => rfl
  | cons => rfl
section
variable {K : PySem.W.Frag} {Γ : Gm} {Ω : Om} {ta tb : TE} {α : Type} {f : α → As} {d : α → PyData} {k : Nat} {xs : List α}
theorem ev_cmpNil (neg : Bool) (h : Kd K f d k) (ha : Lk K Γ Ω ta (xs.map f)) (l : k ≤ 63 := by decide) : Ev Γ Ω (tOp (if neg then rNeD K else rEqD K) ta (tLst tNil)) (B (if neg then !xs.isEmpty else xs.isEmpty)) := fun Z F H σ c Q q =>
  ha Z F H σ c _ fun a F1 H1 c1 s1 hs => ⟨Nat.zero_le _, fun p hp => by
    obtain ⟨F2, H2, e, c2, s2, r⟩ := new_ls (K := K) (Rs := []) (xs := []) c1 trivial hp
    rw [← e]
    obtain ⟨ys, hs2, hl⟩ := hs F2 H2 c2 s2.fe
    have d1 : Dp K H2 (.ref a) (.list (xs.map d)) := .lst hs2 (dpall (alld_map h.is xs) c2.sub hl)
    have d2 : Dp K H2 (.ref p) (.list []) := by
      obtain ⟨p', zs, ep, hz, hzl⟩ := r
      cases ep
      exact .lst (c2.sub.seq hz) (dpall (Rs := []) (ds := []) trivial c2.sub hzl)
    have g1 : Gd (k + 1) (.list (xs.map d)) := (kd_list h).gd xs
    have sh1 := g1.shaped (Nat.succ_le_succ l)
    have sh2 : SeqAt.shaped (.list []) = true := by decide
    have ee : PyData.eqv (.list (xs.map d)) (.list []) = xs.isEmpty := by
      cases xs <;> rfl
    cases neg with
    | true => exact ⟨_, _, d1, d2, sh1, sh2, by rw [ee]; exact q _ F2 H2 c2 (s1.trans s2) rfl⟩
    | false => exact ⟨_, _, d1, d2, sh1, sh2, by rw [ee]; exact q _ F2 H2 c2 (s1.trans s2) rfl⟩⟩
end
end Y

namespace Y
open PySem L2
/-! ## comprehensions -/
def wipeG (Γ : Gm) : List Nat → Gm
  | [] => Γ
  | v :: vs => (wipeG Γ vs).set v none
theorem wipe_sub {σ : L2.St} {vs : List Nat} : ∀ us : List Nat, (∀ i, i ∈ us → i ∈ vs) → L2.wipe (L2.wipe σ us) vs = L2.wipe σ vs
  | [], _ => rfl
  | u :: us, h => (wipe_set (σ := L2.wipe σ us) (h u List.mem_cons_self)).trans (wipe_sub us fun i hi => h i (List.mem_cons_of_mem _ hi))
theorem wipe_wipe (σ : L2.St) (vs : List Nat) : L2.wipe (L2.wipe σ vs) vs = L2.wipe σ vs := wipe_sub vs fun _ h => h
theorem Sat.wipe {F : Hp} {Γ : Gm} {σ : L2.St} (h : Sat F Γ σ) : ∀ vs : List Nat, Sat F (wipeG Γ vs) (L2.wipe σ vs)
  | [] => h
  | v :: vs => Sat.unset v (Sat.wipe h vs)
section
variable {Z : Bs} {F H F' H' : Hp} {σ σ' : L2.St} {Γ Γ' : Gm} {Ω Ω' : Om} {K : PySem.W.Frag} {te ta tb tl : TE} {tt : TT} {R Rx Ry : As} {Rs Ss : List As} {n : L2.St → Hp → Prop} {r : VK} {bk ct : L2.St → Hp → Prop}
theorem Ctx.slots {Γ' : Gm} {σ' : L2.St} (c : Ctx Z F H σ Γ Ω) (h : Sat F Γ' σ') : Ctx Z F H σ' Γ' Ω := ⟨h, c.sub, c.own, c.nd, c.loc, c.ext, c.pin⟩
/-- what is owned is, for a while, what it is just now -/
theorem Ctx.tail {x : Addr × OA} (c : Ctx Z F H σ Γ (x :: Ω)) : Ctx Z F H σ Γ Ω :=
  ⟨c.sat, c.sub, fun y hy => c.own y (List.mem_cons_of_mem _ hy), (List.nodup_cons.mp c.nd).2, fun y hy => c.loc y (List.mem_cons_of_mem _ hy), c.ext, c.pin⟩
theorem filter_take {α : Type} {xs : List α} {c : α → Bool} {k : Nat} {x : α} (h : xs[k]? = some x) : (xs.take (k + 1)).filter c = (xs.take k).filter c ++ (if c x = true then [x] else []) := by
  rw [List.take_succ, h, Option.toList_some, List.filter_append]
  congr 1
  rw [List.filter_cons, List.filter_nil]
theorem ev_lc {α : Type} {xs : List α} {f : α → As} {g : TG} {vs : List Nat} (G' : α → Gm) (cd : α → Bool) (res : α → As) {ws : List Nat} (e : Ev Γ Ω tl (Ls K (xs.map f))) (hg : ∀ x, Gt (wipeG Γ vs) (f x) g (G' x) ws) (hw : ∀ i ∈ ws, i ∈ vs)
    (ht : ∀ x ∈ xs, EvT (G' x) Ω tt (cd x)) (he : ∀ x ∈ xs, cd x = true → Ev (G' x) Ω te (res x)) (hlen : xs.length ≤ 100000) : Ev Γ Ω (tLc (iList K tl) g tt te vs) (Ls K ((xs.filter cd).map res)) := fun Z F H σ c Q q =>
  e Z F H σ c _ fun v F1 H1 c1 s1 rv => by
    obtain ⟨a, ys, ea, hs, hl⟩ := rv
    have hly : ys.length = xs.length := by rw [hl.length, List.length_map]
    refine ⟨a, ea, ⟨ys, c1.sub.seq hs⟩, fun D hD => ?_⟩
    have cw : Ctx Z F1 H1 (L2.wipe σ vs) (wipeG Γ vs) Ω := c1.slots (c1.sat.wipe vs)
    refine lc_list (K := K) (a := a) (xs := ys) (fun k H' => ∃ F' acc, H' D = some (.lst acc) ∧ acc.length ≤ k ∧ All F' (((xs.take k).filter cd).map res) acc ∧ F' D = none ∧ ∃ G, Ctx Z F' G (L2.wipe σ vs) (wipeG Γ vs) Ω ∧ Ext [] F1 H1 F' G ∧ G D = none ∧ H' = upd G D (.lst acc))
      ⟨F1, [], upd_same, Nat.zero_le _, trivial, c1.sub.free hD, H1, cw, Ext.refl _ _ _, hD, rfl⟩ ?_ ?_ ?_
    · rintro k H' _ ⟨F', acc, _, _, _, _, G, cG, eG, hGD, rfl⟩
      have z := cG.sub.seq (eG.fe.seq hs)
      exact Same.seq (fun b o h => by rw [upd_ne (ne_of_none h hGD)]; exact h) z
    · rintro k y H' hy ⟨F', acc, hA, hlA, hall, hFD, G, cG, eG, hGD, rfl⟩
      have hk : k < xs.length := by rw [← hly]; exact (List.getElem?_eq_some_iff.mp hy).1
      have hx : xs[k]? = some xs[k] := List.getElem?_eq_getElem hk
      have hmem : xs[k] ∈ xs := List.getElem_mem hk
      have hz : (xs.map f)[k]? = some (f xs[k]) := by rw [List.getElem?_map, hx]; rfl
      obtain ⟨y', ey, ry⟩ := hl.get hz
      rw [hy] at ey
      cases ey
      -- the list that is being made, as something owned
      have cD : Ctx Z F' (upd G D (.lst acc)) (L2.wipe σ vs) (wipeG Γ vs) ((D, oX acc []) :: Ω) ∨ True := .inr trivial
      have cA : Ctx Z F' (upd G D (.lst acc)) (L2.wipe σ vs) (wipeG Γ vs) Ω := (cG.grow (A := ⟨fun _ _ => True, fun _ h => h⟩) (p := D) (o := .lst acc) hGD trivial).tail
      have pres : ∀ {F2 H2 : Hp}, Ext [] F' (upd G D (.lst acc)) F2 H2 → H2 D = some (.lst acc) := fun e2 => e2.fr D _ upd_same List.not_mem_nil
      have back : ∀ {F2 H2 : Hp} {σ2 : L2.St} {Γ2 : Gm}, Ctx Z F2 H2 σ2 Γ2 Ω → Ext [] F' (upd G D (.lst acc)) F2 H2 → F2 D = none ∧ ∃ G2, Ctx Z F2 G2 (L2.wipe σ vs) (wipeG Γ vs) Ω ∧ Ext [] F1 H1 F2 G2 ∧ G2 D = none ∧ ∀ o, upd H2 D o = upd G2 D o := fun {F2 H2 σ2 Γ2} c2 e2 => by
        have f2 : F2 D = none := e2.nw D (by rw [upd_same]; exact fun z => by cases z) hFD
        let G2 : Hp := fun b => if b = D then none else H2 b
        have g2 : ∀ b, b ≠ D → G2 b = H2 b := fun b hb => if_neg hb
        have gD : G2 D = none := if_pos rfl
        have hext : Ext [] F' G F2 G2 := by
          refine ⟨e2.fe, fun b o h hn => ?_, fun b h => ?_, fun b h1 h2 => ?_⟩
          · have hb : b ≠ D := ne_of_none h hGD
            rw [g2 b hb]
            exact e2.fr b o (by rw [upd_ne hb]; exact h) hn
          · by_cases hb : b = D
            · rw [hb]; exact hGD
            · rw [g2 b hb] at h
              have := e2.dm b h
              rw [upd_ne hb] at this
              exact this
          · have hb : b ≠ D := fun z => h1 (by rw [z]; exact hGD)
            exact e2.nw b (by rw [upd_ne hb]; exact h1) h2
        have hsub : Same F2 G2 := fun b o h => by
          have hb : b ≠ D := ne_of_none h f2
          rw [g2 b hb]
          exact c2.sub b o h
        refine ⟨f2, G2, cG.step hext hsub, eG.trans hext, gD, fun o => ?_⟩
        funext b
        unfold upd
        by_cases hb : b = D
        · rw [if_pos hb, if_pos hb]
        · rw [if_neg hb, if_neg hb, g2 b hb]
      refine hg xs[k] Z F' _ (L2.wipe σ vs) y Ω cA ((f xs[k]).mono eG.fe ry) _ fun σ2 c2 hσ => ⟨(hσ vs hw).trans ?_, ?_⟩
      · exact wipe_wipe σ vs
      refine ht xs[k] hmem Z F' _ σ2 c2 _ fun F3 H3 c3 e3 => ?_
      cases hc : cd xs[k] with
      | false =>
        refine iteF ?_
        obtain ⟨f3, G3, cG3, eG3, gD3, up3⟩ := back c3 e3
        refine ⟨F3, acc, pres e3, by omega, ?_, f3, G3, cG3, eG3, gD3, ?_⟩
        · rw [filter_take hx, hc, if_neg Bool.false_ne_true, List.append_nil]
          exact hall.mono e3.fe
        · have := up3 (.lst acc)
          rw [← this]
          funext b
          unfold upd
          by_cases hb : b = D
          · rw [if_pos hb, hb]; exact pres e3
          · rw [if_neg hb]
      | true =>
        refine iteT ?_
        refine he xs[k] hmem hc Z F3 H3 σ2 c3 _ fun w F4 H4 c4 e4 rw' => ?_
        have e34 := e3.trans e4
        obtain ⟨f4, G4, cG4, eG4, gD4, up4⟩ := back c4 e34
        refine ⟨acc, pres e34, Nat.lt_of_le_of_lt (Nat.le_trans hlA (Nat.le_of_lt (Nat.lt_of_lt_of_le hk hlen))) (by decide), F4, acc ++ [w], upd_same, by rw [List.length_append]; exact Nat.succ_le_succ hlA, ?_, f4, G4, cG4, eG4, gD4, up4 _⟩
        rw [filter_take hx, hc, if_pos rfl, List.map_append]
        exact (hall.mono e34.fe).app ⟨rw', trivial⟩
    · rintro H' ⟨F', acc, hA, _, hall, hFD, G, cG, eG, hGD, rfl⟩
      rw [hly, List.take_length] at hall
      obtain ⟨e', s'⟩ := Ext.new (o := .lst acc) cG.sub hGD
      exact q _ _ _ (c1.step (eG.trans e') s') (s1.trans (eG.trans e')) ⟨D, acc, rfl, SqL.of upd_same, hall.mono e'.fe⟩
end
section
variable {Γ : Gm} {Ω : Om} {K : PySem.W.Frag} {te tl : TE}
theorem et_yes : EvT Γ Ω tYes true := fun Z F H σ c Q q => q F H c (Ext.refl _ _ _)
theorem ev_lcA {α : Type} {xs : List α} {f : α → As} {g : TG} {vs : List Nat} (G' : α → Gm) (res : α → As) {ws : List Nat} (e : Ev Γ Ω tl (Ls K (xs.map f))) (hg : ∀ x, Gt (wipeG Γ vs) (f x) g (G' x) ws) (hw : ∀ i ∈ ws, i ∈ vs)
    (he : ∀ x ∈ xs, Ev (G' x) Ω te (res x)) (hlen : xs.length ≤ 100000) : Ev Γ Ω (tLc (iList K tl) g tYes te vs) (Ls K (xs.map res)) := by
  have z := ev_lc (K := K) (te := te) (tt := tYes) G' (fun _ => true) res e hg hw (fun _ _ => et_yes) (fun x hx _ => he x hx) hlen
  rw [List.filter_eq_self.mpr (fun _ _ => rfl)] at z
  exact z
end
/-! ## built-ins over lists of ints -/
section
variable {K : PySem.W.Frag} {Γ : Gm} {Ω : Om} {ta tb te : TE}
theorem all_map {F : Hp} {α : Type} {g : α → Int} : ∀ {xs : List α} {ys : List V}, All F (xs.map fun x => I (g x)) ys → ys = (xs.map g).map V.int
  | [], [], _ => rfl
  | x :: xs, y :: ys, h => by
    have e : y = V.int (g x) := h.1
    rw [e, all_map h.2]
    rfl
  | [], _ :: _, h => h.elim
  | _ :: _, [], h => h.elim
theorem rc_sum {α : Type} {xs : List α} {g : α → Int} : RC (rSum K) [Ls K (xs.map fun x => I (g x))] (I (xs.map g).sum) := fun F H vs s h Q q => by
  obtain ⟨v, rfl, a, ys, e, hs, hl⟩ := h.one
  cases e
  have z := all_map hl
  subst z
  exact ⟨a, xs.map g, rfl, s.seq hs, q _ F H (Ext.refl _ _ _) s rfl⟩
theorem rc_max2 {m n : Int} : RC (fun xs H Q => ∃ m n, xs = [.int m, .int n] ∧ Q (.int (if n > m then n else m)) H) [I m, I n] (I (max m n)) := fun F H vs s h Q q => by
  obtain ⟨v, w, rfl, e, e'⟩ := h.two
  cases e; cases e'
  refine ⟨m, n, rfl, ?_⟩
  have z : (if n > m then n else m) = max m n := by split <;> omega
  rw [z]
  exact q _ F H (Ext.refl _ _ _) s rfl
theorem rc_min2 {m n : Int} : RC (fun xs H Q => ∃ m n, xs = [.int m, .int n] ∧ Q (.int (if n < m then n else m)) H) [I m, I n] (I (min m n)) := fun F H vs s h Q q => by
  obtain ⟨v, w, rfl, e, e'⟩ := h.two
  cases e; cases e'
  refine ⟨m, n, rfl, ?_⟩
  have z : (if n < m then n else m) = min m n := by split <;> omega
  rw [z]
  exact q _ F H (Ext.refl _ _ _) s rfl
/-! pieces -/
abbrev Pie := Int × Int × Int × Int
def Pc (K : PySem.W.Frag) (p : Pie) : As := Tp K [I p.1, I p.2.1, I p.2.2.1, I p.2.2.2]
theorem ev_pc {ta : TA} {a b c d : Int} (h : EvA Γ Ω ta [I a, I b, I c, I d]) : Ev Γ Ω (tTup ta) (Pc K (a, b, c, d)) := ev_tup h (show 4 ≤ 1000 by decide)
theorem kd_pc : Kd K (Pc K) (fun p => .tuple [.int p.1, .int p.2.1, .int p.2.2.1, .int p.2.2.2]) 1 := ⟨fun q => isd_tup ⟨isd_int, isd_int, isd_int, isd_int, trivial⟩, fun q => gd_tup fun d hd => by
    simp only [List.mem_cons, List.not_mem_nil, or_false] at hd
    rcases hd with z | z | z | z <;> (subst z; exact gd_int), fun x y => by
    obtain ⟨a, b, c, d⟩ := x
    obtain ⟨a', b', c', d'⟩ := y
    simp [PyData.eqv, PyData.eqvAll]⟩
theorem atI_two (a b z : Int) : atI [I a, I b] (z % 2) = some (I (if z % 2 = 0 then a else b)) := by
  rcases Int.emod_two_eq z with h | h
  · rw [h]; rfl
  · rw [h]; rfl
theorem atI_map {α : Type} {f : α → As} {xs : List α} {i : Int} (h0 : 0 ≤ i) (h : i < (xs.length : Int)) : ∃ x, xs[i.toNat]? = some x ∧ atI (xs.map f) i = some (f x) := by
  have hk : i.toNat < xs.length := by omega
  have ek : i = ((i.toNat : Nat) : Int) := by omega
  refine ⟨xs[i.toNat], List.getElem?_eq_getElem hk, ?_⟩
  have z := atI_nat (xs := xs.map f) (j := i.toNat) (v := f xs[i.toNat]) (by rw [List.getElem?_map, List.getElem?_eq_getElem hk]; rfl)
  rw [← ek] at z
  exact z
theorem cutA_from {α : Type} {f : α → As} {xs : List α} {j k : Nat} : cutA (xs.map f) (some (j : Int)) (some (k : Int)) = ((xs.drop j).take (k - j)).map f := by
  unfold cutA
  rw [HT.sIx_nat, HT.sIx_nat, List.length_map, ← List.map_drop, ← List.map_take]
  congr 1
  by_cases hj : j ≤ xs.length
  · by_cases hk : k ≤ xs.length
    · rw [Nat.min_eq_left hj, Nat.min_eq_left hk]
    · rw [Nat.min_eq_left hj, Nat.min_eq_right (by omega), List.take_of_length_le (by rw [List.length_drop]; omega), List.take_of_length_le (by rw [List.length_drop]; omega)]
  · rw [List.drop_eq_nil_of_le (as := xs) (i := j) (by omega), List.drop_eq_nil_of_le (by rw [Nat.min_eq_right (by omega)]; omega), List.take_nil, List.take_nil]
theorem cutA_rest {α : Type} {f : α → As} {xs : List α} {j : Nat} : cutA (xs.map f) (some (j : Int)) none = (xs.drop j).map f := by
  unfold cutA
  rw [HT.sIx_nat, HT.sIx_none, List.length_map, ← List.map_drop, ← List.map_take]
  congr 1
  by_cases hj : j ≤ xs.length
  · rw [Nat.min_eq_left hj, List.take_of_length_le (by rw [List.length_drop]; omega)]
  · rw [List.drop_eq_nil_of_le (as := xs) (i := j) (by omega), List.drop_eq_nil_of_le (by rw [Nat.min_eq_right (by omega)]; omega), List.take_nil]
end
/-! ## what laws draw by -/
def mix (c k : Int) : Int :=
  let n := c % 2147483647 + 7919 * k + 1
  let m := (n * n + 48271 * n + 11) % 2147483647
  (m * m + 69621 * m + k) % 2147483647
theorem mix_lo (c k : Int) : 0 ≤ mix c k := Int.emod_nonneg _ (by decide)
theorem mix_hi (c k : Int) : mix c k < 2147483647 := Int.emod_lt_of_pos _ (by decide)
/-- a row that is one -/
structure GoodRow (few : Int) (m : Nat) (row : List Pie) : Prop where
  len : row.length ≤ m
  each : ∀ p ∈ row, 0 ≤ p.1 ∧ p.1 ≤ 1000000000000 ∧ 0 ≤ p.2.1 ∧ p.2.1 < few ∧ 1 ≤ p.2.2.1 ∧ p.2.2.1 ≤ 1000000 ∧ 1 ≤ p.2.2.2 ∧ p.2.2.2 ≤ 1000000
  up : row.Pairwise fun a b => a.1 ≤ b.1
end Y

namespace Y
open PySem L2
/-! ## what is walked -/
section
variable {Z : Bs} {F H F' H' : Hp} {σ σ' : L2.St} {Γ Γ' : Gm} {Ω Ω' : Om} {K : PySem.W.Frag} {te ta tb tl : TE} {tt : TT} {R Rx Ry : As} {Rs Ss : List As} {n : L2.St → Hp → Prop} {r : VK} {bk ct : L2.St → Hp → Prop}
/-- a source: its items, from the first to the last, each as f tells of it -/
def Src {α : Type} (Γ : Gm) (Ω : Om) (wi : TI) (xs : List α) (f : α → As) : Prop := ∀ (Z : Bs) (F H : Hp) (σ : L2.St), Ctx Z F H σ Γ Ω → ∀ R : It → Hp → Prop,
  (∀ J F1 H1, Ctx Z F1 H1 σ Γ Ω → Ext [] F H F1 H1 → (∀ (Z' : Bs) (F2 H2 : Hp) (σ2 : L2.St) (Γ2 : Gm) (Ω2 : Om), Ctx Z' F2 H2 σ2 Γ2 Ω2 → Same F1 F2 →
    J.stop xs.length H2 ∧ ∀ i x, xs[i]? = some x → J.go i H2 ∧ ∀ v H3, J.yld i H2 v H3 → ∃ F3, Ext [] F2 H2 F3 H3 ∧ Same F3 H3 ∧ (f x).p F3 v) → R J H1) → wi σ H R
theorem src_l {α : Type} {xs : List α} {f : α → As} (e : Ev Γ Ω tl (Ls K (xs.map f))) : Src Γ Ω (iList K tl) xs f := fun Z F H σ c R q => e Z F H σ c _ fun v F1 H1 c1 s1 rv => by
  obtain ⟨a, ys, ea, hs, hl⟩ := rv
  have hly : ys.length = xs.length := by rw [hl.length, List.length_map]
  refine ⟨a, ea, ⟨ys, c1.sub.seq hs⟩, q _ F1 H1 c1 s1 fun Z' F2 H2 σ2 Γ2 Ω2 c2 s2 => ?_⟩
  have hs2 := c2.sub.seq (s2.seq hs)
  refine ⟨⟨ys, hs2, Nat.le_of_eq hly⟩, fun i x hx => ?_⟩
  have hz : (xs.map f)[i]? = some (f x) := by rw [List.getElem?_map, hx]; rfl
  obtain ⟨y, ey, ry⟩ := hl.get hz
  refine ⟨⟨ys, y, hs2, ey⟩, fun v H3 hy => ?_⟩
  obtain ⟨e1, e2⟩ := hy
  subst e1
  have := e2 ys hs2
  rw [ey] at this
  cases this
  exact ⟨F2, Ext.refl _ _ _, c2.sub, (f x).mono s2 ry⟩
theorem src_t {α : Type} {xs : List α} {f : α → As} (e : Ev Γ Ω tl (Tp K (xs.map f))) : Src Γ Ω (iTup K tl) xs f := fun Z F H σ c R q => e Z F H σ c _ fun v F1 H1 c1 s1 rv => by
  obtain ⟨a, ys, ea, hs, hl⟩ := rv
  have hly : ys.length = xs.length := by rw [hl.length, List.length_map]
  refine ⟨a, ea, ⟨ys, same_seqT c1.sub hs⟩, q _ F1 H1 c1 s1 fun Z' F2 H2 σ2 Γ2 Ω2 c2 s2 => ?_⟩
  have hs2 := same_seqT c2.sub (same_seqT s2 hs)
  refine ⟨⟨ys, hs2, Nat.le_of_eq hly⟩, fun i x hx => ?_⟩
  have hz : (xs.map f)[i]? = some (f x) := by rw [List.getElem?_map, hx]; rfl
  obtain ⟨y, ey, ry⟩ := hl.get hz
  refine ⟨⟨ys, y, hs2, ey⟩, fun v H3 hy => ?_⟩
  obtain ⟨e1, e2⟩ := hy
  subst e1
  have := e2 ys hs2
  rw [ey] at this
  cases this
  exact ⟨F2, Ext.refl _ _ _, c2.sub, (f x).mono s2 ry⟩
/-- enumerate of a list: the pairs of place and item -/
def Et (K : PySem.W.Frag) {α : Type} (f : α → As) (p : α × Nat) : As := Tp K [I (p.2 : Int), f p.1]
theorem src_e {α : Type} {xs : List α} {f : α → As} {ta : TA} (e : EvA Γ Ω ta [Ls K (xs.map f)]) : Src Γ Ω (iEnum K ta) xs.zipIdx (Et K f) := fun Z F H σ c R q => e Z F H σ c _ fun vs F1 H1 c1 s1 rv => by
  obtain ⟨v, rfl, a, ys, ea, hs, hl⟩ := rv.one
  subst ea
  have hly : ys.length = xs.length := by rw [hl.length, List.length_map]
  refine ⟨a, ys, rfl, c1.sub.seq hs, q _ F1 H1 c1 s1 fun Z' F2 H2 σ2 Γ2 Ω2 c2 s2 => ?_⟩
  have hs2 := c2.sub.seq (s2.seq hs)
  refine ⟨⟨ys, hs2, by rw [List.length_zipIdx]; exact Nat.le_of_eq hly⟩, fun i x hx => ?_⟩
  rw [List.getElem?_zipIdx] at hx
  obtain ⟨x0, hx0, ex⟩ := Option.map_eq_some_iff.mp hx
  subst ex
  have hz : (xs.map f)[i]? = some (f x0) := by rw [List.getElem?_map, hx0]; rfl
  obtain ⟨y, ey, ry⟩ := hl.get hz
  refine ⟨⟨ys, y, hs2, ey⟩, fun v H3 hy => ?_⟩
  obtain ⟨T, x', ev, hT, eH, e2⟩ := hy
  subst ev eH
  have := e2 ys hs2
  rw [ey] at this
  cases this
  obtain ⟨e3, s3⟩ := Ext.new (o := .tup [.int (i : Nat), y]) c2.sub hT
  refine ⟨_, e3, s3, T, _, rfl, SqT.of upd_same, ?_, (f x0).mono (s2.trans e3.fe) ry, trivial⟩
  show V.int _ = V.int _
  simp
theorem src_r1 {ta : TA} {j : Int} (e : EvA Γ Ω ta [I j]) (h0 : -(2 ^ 62) ≤ j) (h1 : j < 2 ^ 62) : Src Γ Ω (iRng1 ta) (List.range j.toNat) (fun k => I (k : Int)) := fun Z F H σ c R q => e Z F H σ c _ fun vs F1 H1 c1 s1 rv => by
  obtain ⟨v, rfl, ev⟩ := rv.one
  cases ev
  refine ⟨j, rfl, h0, h1, q _ F1 H1 c1 s1 fun Z' F2 H2 σ2 Γ2 Ω2 c2 s2 => ?_⟩
  refine ⟨by rw [List.length_range]; exact Nat.le_refl _, fun i x hx => ?_⟩
  obtain ⟨hi, ei⟩ := List.getElem?_eq_some_iff.mp hx
  rw [List.length_range] at hi
  rw [List.getElem_range] at ei
  subst ei
  refine ⟨hi, fun v H3 hy => ?_⟩
  obtain ⟨e1, e2⟩ := hy
  subst e1 e2
  exact ⟨F2, Ext.refl _ _ _, c2.sub, by show V.int (0 + (i : Int)) = V.int (i : Int); rw [Int.zero_add]⟩
theorem src_r2 {ta : TA} {i j : Int} (e : EvA Γ Ω ta [I i, I j]) (h : -(2 ^ 62) ≤ i ∧ i < 2 ^ 62 ∧ -(2 ^ 62) ≤ j ∧ j < 2 ^ 62) : Src Γ Ω (iRng2 ta) (List.range (j - i).toNat) (fun k => I (i + (k : Int))) := fun Z F H σ c R q => e Z F H σ c _ fun vs F1 H1 c1 s1 rv => by
  obtain ⟨v, w, rfl, ev, ew⟩ := rv.two
  cases ev; cases ew
  refine ⟨i, j, rfl, h, q _ F1 H1 c1 s1 fun Z' F2 H2 σ2 Γ2 Ω2 c2 s2 => ?_⟩
  refine ⟨by rw [List.length_range]; exact Nat.le_refl _, fun k x hx => ?_⟩
  obtain ⟨hi, ei⟩ := List.getElem?_eq_some_iff.mp hx
  rw [List.length_range] at hi
  rw [List.getElem_range] at ei
  subst ei
  refine ⟨hi, fun v H3 hy => ?_⟩
  obtain ⟨e1, e2⟩ := hy
  subst e1 e2
  exact ⟨F2, Ext.refl _ _ _, c2.sub, rfl⟩
theorem src_r3 {ta : TA} {i j : Int} (e : EvA Γ Ω ta [I i, I j, I (-1)]) (h : -(2 ^ 62) ≤ i ∧ i < 2 ^ 62 ∧ -(2 ^ 62) ≤ j ∧ j < 2 ^ 62) : Src Γ Ω (iRng3 ta) (List.range (i - j).toNat) (fun k => I (i - (k : Int))) := fun Z F H σ c R q => e Z F H σ c _ fun vs F1 H1 c1 s1 rv => by
  match vs, rv.length with
  | [v, w, u], _ =>
    obtain ⟨ev, ew, eu, _⟩ := rv
    cases ev; cases ew; cases eu
    refine ⟨i, j, -1, _, rfl, RgC.neg h.1 h.2.1 h.2.2.1 h.2.2.2, q _ F1 H1 c1 s1 fun Z' F2 H2 σ2 Γ2 Ω2 c2 s2 => ?_⟩
    refine ⟨by rw [List.length_range]; exact Nat.le_refl _, fun k x hx => ?_⟩
    obtain ⟨hi, ei⟩ := List.getElem?_eq_some_iff.mp hx
    rw [List.length_range] at hi
    rw [List.getElem_range] at ei
    subst ei
    refine ⟨hi, fun v H3 hy => ?_⟩
    obtain ⟨e1, e2⟩ := hy
    subst e1 e2
    exact ⟨F2, Ext.refl _ _ _, c2.sub, by show V.int _ = V.int _; congr 1; omega⟩
theorem src_len {wi : TI} {f : Nat → As} {a b : Nat} (h : Src Γ Ω wi (List.range ((a : Int)).toNat) f) (e : a = b) : Src Γ Ω wi (List.range ((b : Int)).toNat) f := e ▸ h
/-! ## for, comprehensions over any of these -/
theorem st_forS {ι α : Type} {wi : TI} {g : TG} {tb : TS} {xs : List α} {f : α → As} (G : ι → Gm) (G' : α → ι → Gm) (O : ι → Om) (P : Nat → ι → Prop) {ws : List Nat} (i0 : ι) (c : Ctx Z F H σ (G i0) (O i0)) (e : Src (G i0) (O i0) wi xs f) (p0 : P 0 i0)
    (hg : ∀ x i, Gt (G i) (f x) g (G' x i) ws)
    (body : ∀ k x i G1 F H σ (N : L2.St → Hp → Prop), xs[k]? = some x → P k i → Ctx (Z.pin G1) F H σ (G' x i) (O i) → (∀ j F' H' σ', P (k + 1) j → Ctx (Z.pin G1) F' H' σ' (G j) (O j) → N σ' H') → tb ⟨N, r, n, N⟩ σ H)
    (hd : ∀ i F H σ, P xs.length i → Ctx Z F H σ (G i) (O i) → n σ H) : tFor wi g tb ⟨n, r, bk, ct⟩ σ H := by
  refine e Z F H σ c _ fun J F1 H1 c1 s1 src => ?_
  refine ⟨fun k m σ H => m = xs.length - k ∧ k ≤ xs.length ∧ ∃ i F, P k i ∧ Ctx (Z.pin F1) F H σ (G i) (O i), ⟨_, rfl, Nat.zero_le _, i0, F1, p0, c1.topin (Same.refl _)⟩, ?_⟩
  rintro k m σ H ⟨rfl, hkn, i, F, p, cc⟩
  obtain ⟨stop, go⟩ := src _ F H σ _ _ cc cc.pin
  rcases Nat.lt_or_eq_of_le hkn with hk | hk
  · have hx : xs[k]? = some xs[k] := List.getElem?_eq_getElem hk
    obtain ⟨g1, yl⟩ := go k xs[k] hx
    refine .inr ⟨g1, fun σ' H' => ∃ i F, P (k + 1) i ∧ Ctx (Z.pin F1) F H' σ' (G i) (O i), fun σ' H' p' => ⟨xs.length - (k + 1), by omega, rfl, hk, p'⟩, fun v H3 hy => ?_⟩
    obtain ⟨F3, e3, s3, rv⟩ := yl v H3 hy
    refine hg xs[k] i (Z.pin F1) F3 H3 σ v (O i) (cc.step e3 s3) rv _ fun σ' c' _ => ?_
    exact body k xs[k] i F1 F3 H3 σ' _ hx p c' fun j F' H' σ'' pj cj => ⟨j, F', pj, cj⟩
  · subst hk
    exact .inl ⟨stop, hd i F H σ p (cc.unpin c1.pin)⟩
theorem ev_lcS {α : Type} {wi : TI} {xs : List α} {f : α → As} {g : TG} {vs : List Nat} (G' : α → Gm) (cd : α → Bool) (res : α → As) {ws : List Nat} (e : Src Γ Ω wi xs f) (hg : ∀ x, Gt (wipeG Γ vs) (f x) g (G' x) ws) (hw : ∀ i ∈ ws, i ∈ vs)
    (ht : ∀ x ∈ xs, EvT (G' x) Ω tt (cd x)) (he : ∀ x ∈ xs, cd x = true → Ev (G' x) Ω te (res x)) (hlen : xs.length ≤ 100000) : Ev Γ Ω (tLc wi g tt te vs) (Ls K ((xs.filter cd).map res)) := fun Z F H σ c Q q =>
  e Z F H σ c _ fun J F1 H1 c1 s1 src => by
    intro D hD
    have cw : Ctx Z F1 H1 (L2.wipe σ vs) (wipeG Γ vs) Ω := c1.slots (c1.sat.wipe vs)
    let Pv : Nat → Hp → Prop := (fun k H' => ∃ F' acc, H' D = some (.lst acc) ∧ acc.length ≤ k ∧ All F' (((xs.take k).filter cd).map res) acc ∧ F' D = none ∧ ∃ G, Ctx Z F' G (L2.wipe σ vs) (wipeG Γ vs) Ω ∧ Ext [] F1 H1 F' G ∧ G D = none ∧ H' = upd G D (.lst acc))
    refine ⟨fun i m H => m = xs.length - i ∧ i ≤ xs.length ∧ Pv i H, ⟨_, rfl, Nat.zero_le _, F1, [], upd_same, Nat.zero_le _, trivial, c1.sub.free hD, H1, cw, Ext.refl _ _ _, hD, rfl⟩, ?_⟩
    rintro k m Hc ⟨rfl, hkn, pk⟩
    rcases Nat.lt_or_eq_of_le hkn with hk | hk
    · obtain ⟨F', acc, hA, hlA, hall, hFD, G, cG, eG, hGD, rfl⟩ := pk
      have hx : xs[k]? = some xs[k] := List.getElem?_eq_getElem hk
      have hmem : xs[k] ∈ xs := List.getElem_mem hk
      have cA0 : Ctx Z F' (upd G D (.lst acc)) (L2.wipe σ vs) (wipeG Γ vs) Ω := (cG.grow (A := ⟨fun _ _ => True, fun _ h => h⟩) (p := D) (o := .lst acc) hGD trivial).tail
      obtain ⟨go, yl⟩ := (src Z F' _ _ _ _ cA0 eG.fe).2 k xs[k] hx
      refine .inr ⟨go, Pv (k + 1), fun H' p' => ⟨xs.length - (k + 1), by omega, rfl, hk, p'⟩, fun y H' hy => ?_⟩
      obtain ⟨F0, e0, s0, ry⟩ := yl y H' hy
      -- the list that is being made, as something owned
      have cA : Ctx Z F0 H' (L2.wipe σ vs) (wipeG Γ vs) Ω := cA0.step e0 s0
      have pres : ∀ {F2 H2 : Hp}, Ext [] F' (upd G D (.lst acc)) F2 H2 → H2 D = some (.lst acc) := fun e2 => e2.fr D _ upd_same List.not_mem_nil
      have back : ∀ {F2 H2 : Hp} {σ2 : L2.St} {Γ2 : Gm}, Ctx Z F2 H2 σ2 Γ2 Ω → Ext [] F' (upd G D (.lst acc)) F2 H2 → F2 D = none ∧ ∃ G2, Ctx Z F2 G2 (L2.wipe σ vs) (wipeG Γ vs) Ω ∧ Ext [] F1 H1 F2 G2 ∧ G2 D = none ∧ ∀ o, upd H2 D o = upd G2 D o := fun {F2 H2 σ2 Γ2} c2 e2 => by
        have f2 : F2 D = none := e2.nw D (by rw [upd_same]; exact fun z => by cases z) hFD
        let G2 : Hp := fun b => if b = D then none else H2 b
        have g2 : ∀ b, b ≠ D → G2 b = H2 b := fun b hb => if_neg hb
        have gD : G2 D = none := if_pos rfl
        have hext : Ext [] F' G F2 G2 := by
          refine ⟨e2.fe, fun b o h hn => ?_, fun b h => ?_, fun b h1 h2 => ?_⟩
          · have hb : b ≠ D := ne_of_none h hGD
            rw [g2 b hb]
            exact e2.fr b o (by rw [upd_ne hb]; exact h) hn
          · by_cases hb : b = D
            · rw [hb]; exact hGD
            · rw [g2 b hb] at h
              have := e2.dm b h
              rw [upd_ne hb] at this
              exact this
          · have hb : b ≠ D := fun z => h1 (by rw [z]; exact hGD)
            exact e2.nw b (by rw [upd_ne hb]; exact h1) h2
        have hsub : Same F2 G2 := fun b o h => by
          have hb : b ≠ D := ne_of_none h f2
          rw [g2 b hb]
          exact c2.sub b o h
        refine ⟨f2, G2, cG.step hext hsub, eG.trans hext, gD, fun o => ?_⟩
        funext b
        unfold upd
        by_cases hb : b = D
        · rw [if_pos hb, if_pos hb]
        · rw [if_neg hb, if_neg hb, g2 b hb]
      refine hg xs[k] Z F0 _ (L2.wipe σ vs) y Ω cA ry _ fun σ2 c2 hσ => ⟨(hσ vs hw).trans ?_, ?_⟩
      · exact wipe_wipe σ vs
      refine ht xs[k] hmem Z F0 _ σ2 c2 _ fun F3 H3 c3 e3' => ?_
      have e3 := e0.trans e3'
      cases hc : cd xs[k] with
      | false =>
        refine iteF ?_
        obtain ⟨f3, G3, cG3, eG3, gD3, up3⟩ := back c3 e3
        refine ⟨F3, acc, pres e3, by omega, ?_, f3, G3, cG3, eG3, gD3, ?_⟩
        · rw [filter_take hx, hc, if_neg Bool.false_ne_true, List.append_nil]
          exact hall.mono e3.fe
        · have := up3 (.lst acc)
          rw [← this]
          funext b
          unfold upd
          by_cases hb : b = D
          · rw [if_pos hb, hb]; exact pres e3
          · rw [if_neg hb]
      | true =>
        refine iteT ?_
        refine he xs[k] hmem hc Z F3 H3 σ2 c3 _ fun w F4 H4 c4 e4 rw' => ?_
        have e34 := e3.trans e4
        obtain ⟨f4, G4, cG4, eG4, gD4, up4⟩ := back c4 e34
        refine ⟨acc, pres e34, Nat.lt_of_le_of_lt (Nat.le_trans hlA (Nat.le_of_lt (Nat.lt_of_lt_of_le hk hlen))) (by decide), F4, acc ++ [w], upd_same, by rw [List.length_append]; exact Nat.succ_le_succ hlA, ?_, f4, G4, cG4, eG4, gD4, up4 _⟩
        rw [filter_take hx, hc, if_pos rfl, List.map_append]
        exact (hall.mono e34.fe).app ⟨rw', trivial⟩
    · subst hk
      obtain ⟨F', acc, hA, _, hall, hFD, G, cG, eG, hGD, rfl⟩ := pk
      have cA0 : Ctx Z F' (upd G D (.lst acc)) (L2.wipe σ vs) (wipeG Γ vs) Ω := (cG.grow (A := ⟨fun _ _ => True, fun _ h => h⟩) (p := D) (o := .lst acc) hGD trivial).tail
      refine .inl ⟨(src Z F' _ _ _ _ cA0 eG.fe).1, ?_⟩
      rw [List.take_length] at hall
      obtain ⟨e', s'⟩ := Ext.new (o := .lst acc) cG.sub hGD
      exact q _ _ _ (c1.step (eG.trans e') s') (s1.trans (eG.trans e')) ⟨D, acc, rfl, SqL.of upd_same, hall.mono e'.fe⟩

theorem ev_lcSA {α : Type} {wi : TI} {xs : List α} {f : α → As} {g : TG} {vs : List Nat} (G' : α → Gm) (res : α → As) {ws : List Nat} (e : Src Γ Ω wi xs f) (hg : ∀ x, Gt (wipeG Γ vs) (f x) g (G' x) ws) (hw : ∀ i ∈ ws, i ∈ vs)
    (he : ∀ x ∈ xs, Ev (G' x) Ω te (res x)) (hlen : xs.length ≤ 100000) : Ev Γ Ω (tLc wi g tYes te vs) (Ls K (xs.map res)) := by
  have z := ev_lcS (K := K) (te := te) (tt := tYes) G' (fun _ => true) res e hg hw (fun _ _ => et_yes) (fun x hx _ => he x hx) hlen
  rw [List.filter_eq_self.mpr (fun _ _ => rfl)] at z
  exact z
end
/-! ## what may be None -/
def Op {α : Type} (R : α → As) : Option α → As
  | none => Nn
  | some x => R x
/-- never None -/
def Nev (R : As) : Prop := ∀ F v, R.p F v → v ≠ .non
section
variable {Γ : Gm} {Ω : Om} {K : PySem.W.Frag} {ta tb : TE}
theorem nev_tp {Rs : List As} : Nev (Tp K Rs) := fun F v h e => by
  obtain ⟨a, xs, e', _⟩ := h
  rw [e] at e'; cases e'
theorem nev_ls {Rs : List As} : Nev (Ls K Rs) := fun F v h e => by
  obtain ⟨a, xs, e', _⟩ := h
  rw [e] at e'; cases e'
theorem nev_c {w : V} (h : w ≠ .non) : Nev (Cst w) := fun F v e z => h (e.symm.trans z)
theorem op_is {α : Type} {R : α → As} (h : ∀ x, Nev (R x)) {o : Option α} {F : Hp} {v : V} (r : (Op R o).p F v) : decide (v = .non) = o.isNone := by
  cases o with
  | none =>
    have e : v = .non := r
    subst e; rfl
  | some x => exact decide_eq_false (h x F v r)
theorem ev_isNO {α : Type} {R : α → As} {o : Option α} (h : ∀ x, Nev (R x)) (ha : Ev Γ Ω ta (Op R o)) : Ev Γ Ω (tOp (fun x y H Q => y = .non ∧ Q (.bl (decide (x = .non))) H) ta (tC .non)) (B o.isNone) := fun Z F H σ c Q q =>
  ha Z F H σ c _ fun x F1 H1 c1 s1 rx => ⟨rfl, by rw [op_is h rx]; exact q _ F1 H1 c1 s1 rfl⟩
theorem ev_notNO {α : Type} {R : α → As} {o : Option α} (h : ∀ x, Nev (R x)) (ha : Ev Γ Ω ta (Op R o)) : Ev Γ Ω (tOp (fun x y H Q => y = .non ∧ Q (.bl (!decide (x = .non))) H) ta (tC .non)) (B (!o.isNone)) := fun Z F H σ c Q q =>
  ha Z F H σ c _ fun x F1 H1 c1 s1 rx => ⟨rfl, by rw [op_is h rx]; exact q _ F1 H1 c1 s1 rfl⟩
theorem ev_isBl {a b : Bool} (ha : Ev Γ Ω ta (B a)) (hb : Ev Γ Ω tb (B b)) : Ev Γ Ω (tOp rIsB ta tb) (B (decide (a = b))) := ev_op ha hb fun F H x y s e e' Q q => ⟨a, b, e, e', q _ F H (Ext.refl _ _ _) s rfl⟩
theorem ev_notBl {a b : Bool} (ha : Ev Γ Ω ta (B a)) (hb : Ev Γ Ω tb (B b)) : Ev Γ Ω (tOp rNotB ta tb) (B (!decide (a = b))) := ev_op ha hb fun F H x y s e e' Q q => ⟨a, b, e, e', q _ F H (Ext.refl _ _ _) s rfl⟩
end
end Y

namespace Y
open PySem L2 PySem.Spec
open PyProof.Rows (envOfC)
/-! ## instances -/
def AllF (F : Hp) : List (Str × As) → List (Str × V) → Prop
  | [], [] => True
  | (f, R) :: r, (g, v) :: vs => f = g ∧ R.p F v ∧ AllF F r vs
  | _, _ => False
theorem AllF.mono {F F' : Hp} (s : Same F F') : ∀ {fs : List (Str × As)} {vs : List (Str × V)}, AllF F fs vs → AllF F' fs vs
  | [], [], _ => trivial
  | (_, R) :: _, (_, _) :: _, h => ⟨h.1, R.mono s h.2.1, AllF.mono s h.2.2⟩
  | [], _ :: _, h => h.elim
  | _ :: _, [], h => h.elim
theorem AllF.length {F : Hp} : ∀ {fs : List (Str × As)} {vs : List (Str × V)}, AllF F fs vs → vs.length = fs.length
  | [], [], _ => rfl
  | (_, _) :: _, (_, _) :: _, h => congrArg (· + 1) (AllF.length h.2.2)
  | [], _ :: _, h => h.elim
  | _ :: _, [], h => h.elim
theorem AllF.get {F : Hp} {f : Str} {R : As} : ∀ {fs : List (Str × As)} {vs : List (Str × V)}, AllF F fs vs → fs.lookup f = some R → ∃ v, vs.lookup f = some v ∧ R.p F v
  | [], [], _, e => by simp at e
  | (g, S) :: r, (g', v) :: vs, h, e => by
    obtain ⟨h1, h2, h3⟩ := h
    subst h1
    rw [List.lookup_cons] at e ⊢
    cases q : (f == g) with
    | true =>
      rw [q] at e
      have e' : S = R := Option.some.inj e
      subst e'
      exact ⟨v, rfl, h2⟩
    | false =>
      rw [q] at e
      exact AllF.get h3 e
  | [], _ :: _, h, _ => h.elim
  | _ :: _, [], h, _ => h.elim
theorem AllF.none {F : Hp} {f : Str} : ∀ {fs : List (Str × As)} {vs : List (Str × V)}, AllF F fs vs → fs.lookup f = none → vs.lookup f = none
  | [], [], _, _ => rfl
  | (g, S) :: r, (g', v) :: vs, h, e => by
    obtain ⟨h1, h2, h3⟩ := h
    subst h1
    rw [List.lookup_cons] at e ⊢
    cases q : (f == g) with
    | true =>
      rw [q] at e
      cases e
    | false =>
      rw [q] at e
      exact AllF.none h3 e
  | [], _ :: _, h, _ => h.elim
  | _ :: _, [], h, _ => h.elim
def putA (f : Str) (R : As) : List (Str × As) → List (Str × As)
  | [] => [(f, R)]
  | (g, S) :: r => if g = f then (g, R) :: r else (g, S) :: putA f R r
theorem AllF.put {F : Hp} {f : Str} {R : As} {v : V} (q : R.p F v) : ∀ {fs : List (Str × As)} {vs : List (Str × V)}, AllF F fs vs → AllF F (putA f R fs) (putF f v vs)
  | [], [], _ => ⟨rfl, q, trivial⟩
  | (g, S) :: r, (g', w) :: vs, h => by
    obtain ⟨h1, h2, h3⟩ := h
    subst h1
    unfold putA putF
    split
    · exact ⟨rfl, q, h3⟩
    · exact ⟨rfl, h2, AllF.put q h3⟩
  | [], _ :: _, h => h.elim
  | _ :: _, [], h => h.elim
def oI (C dx : Addr) (fs : List (Str × As)) : OA := ⟨fun F o => ∃ vs, o = .ins C dx vs ∧ AllF F fs vs, fun s h => by
  obtain ⟨vs, e, q⟩ := h; exact ⟨vs, e, q.mono s⟩⟩
section
variable {Z : Bs} {F H F' H' : Hp} {σ σ' : L2.St} {Γ Γ' : Gm} {Ω Ω' : Om} {K : PySem.W.Frag} {te ta tb tl : TE} {tt : TT} {R Rx Ry : As} {Rs Ss : List As} {n : L2.St → Hp → Prop} {r : VK} {bk ct : L2.St → Hp → Prop} {p C dx : Addr} {fs : List (Str × As)} {f : Str} {j : Nat}
theorem ev_fld (ha : Ev Γ Ω ta (Rf p)) (hm : Ω[j]? = some (p, oI C dx fs)) (hc : Cls K C) (hn : NoAttr K C f) (hl : fs.lookup f = some R) : Ev Γ Ω (tFld K ta f) R := fun Z F H σ c Q q =>
  ha Z F H σ c _ fun x F1 H1 c1 s1 rx => by
    cases rx
    obtain ⟨_, o, h2, vs, e, ha⟩ := c1.own _ (List.mem_of_getElem? hm)
    subst e
    obtain ⟨v, e1, rv⟩ := ha.get hl
    exact ⟨p, C, dx, vs, v, rfl, h2, hc, hn, e1, q v F1 H1 c1 s1 rv⟩
theorem st_fld (c : Ctx Z F H σ Γ Ω) (e : Ev Γ Ω te R) (ha : Ev Γ Ω ta (Rf p)) (hm : Ω[j]? = some (p, oI C dx fs)) (hc : Cls K C) (hn : NoAttr K C f) (hl : fs.length < 1000) (k : ∀ F' H', Ctx Z F' H' σ Γ (Ω.set j (p, oI C dx (putA f R fs))) → Same F F' → n σ H') (hro : Z.ro = [] := by rfl) :
    sFld K ta te f ⟨n, r, bk, ct⟩ σ H := e Z F H σ c _ fun y F1 H1 c1 s1 ry => ha Z F1 H1 σ c1 _ fun x F2 H2 c2 s2 rx => by
  cases rx
  obtain ⟨_, o, h2, vs, eo, ha⟩ := c2.own _ (List.mem_of_getElem? hm)
  subst eo
  refine ⟨p, C, dx, vs, rfl, h2, hc, hn, by rw [ha.length]; exact hl, ?_⟩
  exact k F2 _ (c2.chg hm ⟨_, rfl, ha.put (R.mono s2.fe ry)⟩ (c2.wr hm hro)) (s1.trans s2).fe
end
/-! ## contracts of methods: those that read, those that change -/
def CtR {α : Type} (args : α → List As) (Oi : α → Om) (pre : α → Prop) (res : α → As) : Sp := fun vs H Q _ =>
  ∃ a F, Same F H ∧ All F (args a) vs ∧ Own F H (Oi a) ∧ ((Oi a).map (·.1)).Nodup ∧ pre a ∧ ∀ v F' H', Ext [] F H F' H' → Same F' H' → (res a).p F' v → Q v H'
def CtM {α : Type} (args : α → List As) (Oi : α → Om) (pre : α → Prop) (res : α → As) (Oo : α → Om) : Sp := fun vs H Q _ =>
  ∃ a F, Same F H ∧ All F (args a) vs ∧ Own F H (Oi a) ∧ ((Oi a).map (·.1)).Nodup ∧ pre a ∧ ∀ v F' H', Ext ((Oi a).map (·.1)) F H F' H' → Same F' H' → (res a).p F' v → Own F' H' (Oo a) → Q v H'
theorem CtR.len {α : Type} {args : α → List As} {Oi : α → Om} {pre : α → Prop} {res : α → As} {n : Nat} (h : ∀ a, (args a).length = n) : ∀ vs H Q E, CtR args Oi pre res vs H Q E → vs.length = n := by
  rintro vs H Q E ⟨a, F, _, ha, _⟩
  rw [ha.length, h]
theorem CtM.len {α : Type} {args : α → List As} {Oi Oo : α → Om} {pre : α → Prop} {res : α → As} {n : Nat} (h : ∀ a, (args a).length = n) : ∀ vs H Q E, CtM args Oi pre res Oo vs H Q E → vs.length = n := by
  rintro vs H Q E ⟨a, F, _, ha, _⟩
  rw [ha.length, h]
theorem ctx_startR {F H : Hp} {Rs : List As} {vs : List V} {N : List Str} {Ω : Om} (s : Same F H) (h : All F Rs vs) (o : Own F H Ω) (nd : (Ω.map (·.1)).Nodup) : Ctx ⟨F, H, [], F, Ω.map (·.1)⟩ F H (L2.start N vs) (Rs.map some ++ List.replicate (N.length - Rs.length) none) Ω := by
  refine ⟨?_, s, o, nd, fun x h => .inr (.inr (List.mem_map.mpr ⟨x, h, rfl⟩)), Ext.refl _ _ _, Same.refl _⟩
  unfold L2.start
  rw [h.length]
  exact sat_start _ h
theorem ctx_startM {F H : Hp} {Rs : List As} {vs : List V} {N : List Str} {Ω : Om} (s : Same F H) (h : All F Rs vs) (o : Own F H Ω) (nd : (Ω.map (·.1)).Nodup) : Ctx ⟨F, H, Ω.map (·.1), F, []⟩ F H (L2.start N vs) (Rs.map some ++ List.replicate (N.length - Rs.length) none) Ω := by
  refine ⟨?_, s, o, nd, fun x h => .inl (List.mem_map.mpr ⟨x, h, rfl⟩), Ext.refl _ _ _, Same.refl _⟩
  unfold L2.start
  rw [h.length]
  exact sat_start _ h
section
variable {Z : Bs} {F H F' H' : Hp} {σ σ' : L2.St} {Γ Γ' : Gm} {Ω Ω' Ωr : Om} {K : PySem.W.Frag} {te ta tb tl : TE} {tt : TT} {R Rx Ry : As} {Rs Ss : List As} {n : L2.St → Hp → Prop} {r : VK} {bk ct : L2.St → Hp → Prop} {p C dx : Addr} {fs : List (Str × As)} {f m : Str} {j : Nat} {E : XK}
theorem Own.sub (h : Own F H Ω) (s : ∀ x, x ∈ Ω' → x ∈ Ω) : Own F H Ω' := fun x hx => h x (s x hx)
theorem nodup_sub (h : (Ω.map (·.1)).Nodup) (s : Ω'.Sublist Ω) : (Ω'.map (·.1)).Nodup := (s.map _).nodup h
/-- o.m(e, ..), a method that reads -/
theorem ev_meth {α : Type} {args : α → List As} {Oi : α → Om} {pre : α → Prop} {res : α → As} {t : TA} (a : α) (ho : Ev Γ Ω ta (Rf p)) (hm : Ω[j]? = some (p, oI C dx fs)) (hn : fs.lookup m = none) (h : EvA Γ Ω t Rs) (ha : args a = Rf p :: Rs) (hs : (Oi a).Sublist Ω) (hp : pre a) :
    Ev Γ Ω (tMeth C m (CtR args Oi pre res) [] E ta t) (res a) := fun Z F H σ c Q q =>
  ho Z F H σ c _ fun x F1 H1 c1 s1 rx => by
    cases rx
    obtain ⟨_, o, h2, vs, eo, hf⟩ := c1.own _ (List.mem_of_getElem? hm)
    subst eo
    refine ⟨p, dx, vs, rfl, h2, hf.none hn, h Z F1 H1 σ c1 _ fun ws F2 H2 c2 s2 rs => ?_⟩
    refine ⟨a, F2, c2.sub, ?_, c2.own.sub fun x hx => hs.subset hx, nodup_sub c2.nd hs, hp, fun v F3 H3 e3 s3 rv => q v F3 H3 (c2.step e3 s3) (s1.trans (s2.trans e3)) rv⟩
    rw [ha, List.append_nil]
    exact ⟨rfl, rs⟩
theorem Ctx.perm (c : Ctx Z F H σ Γ Ω) (h : Ω.Perm Ω') : Ctx Z F H σ Γ Ω' :=
  ⟨c.sat, c.sub, fun x hx => c.own x (h.mem_iff.mpr hx), (h.map _).nodup_iff.mp c.nd, fun x hx => c.loc x (h.mem_iff.mpr hx), c.ext, c.pin⟩
/-- behind a call that changes what it owns -/
theorem Ctx.changed {Ωi Ωo : Om} (c : Ctx Z F H σ Γ (Ωi ++ Ωr)) (e : Ext (Ωi.map (·.1)) F H F' H') (s : Same F' H') (o : Own F' H' Ωo) (ha : Ωo.map (·.1) = Ωi.map (·.1)) (hro : Z.ro = []) : Ctx Z F' H' σ Γ (Ωo ++ Ωr) := by
  have nd := c.nd
  rw [List.map_append, List.nodup_append] at nd
  have dis : ∀ x, x ∈ Ωr → x.1 ∉ Ωi.map (·.1) := fun x hx hi => nd.2.2 _ hi _ (List.mem_map.mpr ⟨x, hx, rfl⟩) rfl
  have wr : ∀ a, a ∈ Ωi.map (·.1) → a ∈ Z.ft ∨ Z.H a = none := fun a ha => by
    obtain ⟨x, hx, rfl⟩ := List.mem_map.mp ha
    rcases c.loc x (List.mem_append_left _ hx) with l | l | l
    · exact .inl l
    · exact .inr l
    · rw [hro] at l; exact absurd l List.not_mem_nil
  refine ⟨c.sat.mono e.fe, s, fun x hx => ?_, ?_, fun x hx => ?_, c.ext.transL e wr, c.pin.trans e.fe⟩
  · rcases List.mem_append.mp hx with hx | hx
    · exact o x hx
    · obtain ⟨h1, o', h2, h3⟩ := c.own x (List.mem_append_right _ hx)
      exact ⟨e.nw _ (by rw [h2]; exact fun z => by cases z) h1, o', e.fr _ _ h2 (dis x hx), x.2.mono e.fe h3⟩
  · rw [List.map_append, ha, ← List.map_append]
    exact c.nd
  · rcases List.mem_append.mp hx with hx | hx
    · have : x.1 ∈ Ωi.map (·.1) := by rw [← ha]; exact List.mem_map.mpr ⟨x, hx, rfl⟩
      rcases wr _ this with l | l
      · exact .inl l
      · exact .inr (.inl l)
    · exact c.loc x (List.mem_append_right _ hx)
/-- o.m(e, ..), a method that changes; k: behind it, with its value -/
theorem st_meth {α : Type} {args : α → List As} {Oi Oo : α → Om} {pre : α → Prop} {res : α → As} {t : TA} {Q : VK} (a : α) (c : Ctx Z F H σ Γ Ω) (ho : Ev Γ Ω ta (Rf p)) (hm : Ω[j]? = some (p, oI C dx fs)) (hn : fs.lookup m = none) (h : EvA Γ Ω t Rs) (ha : args a = Rf p :: Rs) (hs : Ω.Perm (Oi a ++ Ωr)) (hp : pre a)
    (hoo : (Oo a).map (·.1) = (Oi a).map (·.1)) (k : ∀ v F' H', Ctx Z F' H' σ Γ (Oo a ++ Ωr) → Same F F' → (res a).p F' v → Q v H') (hro : Z.ro = [] := by rfl) : tMeth C m (CtM args Oi pre res Oo) [] E ta t σ H Q :=
  ho Z F H σ c _ fun x F1 H1 c1 s1 rx => by
    cases rx
    obtain ⟨_, o, h2, vs, eo, hf⟩ := c1.own _ (List.mem_of_getElem? hm)
    subst eo
    refine ⟨p, dx, vs, rfl, h2, hf.none hn, h Z F1 H1 σ c1 _ fun ws F2 H2 c2 s2 rs => ?_⟩
    have cp := c2.perm hs
    refine ⟨a, F2, c2.sub, ?_, cp.own.sub fun x hx => List.mem_append_left _ hx, ?_, hp, fun v F3 H3 e3 s3 rv ow => k v F3 H3 (cp.changed e3 s3 ow hoo hro) ((s1.trans s2).fe.trans e3.fe) rv⟩
    · rw [ha, List.append_nil]
      exact ⟨rfl, rs⟩
    · have nd := cp.nd
      rw [List.map_append, List.nodup_append] at nd
      exact nd.1
/-- C(e, ..): a new instance -/
theorem st_make {α : Type} {args : α → Addr → List As} {Oi Oo : α × Addr × Addr → Om} {pre : α × Addr × Addr → Prop} {res : α × Addr × Addr → As} {t : TA} {Q : VK} (a : α) (c : Ctx Z F H σ Γ Ω) (h : EvA Γ Ω t Rs) (ha : ∀ x, args a x = Rf x :: Rs) (hoi : ∀ x dx, Oi (a, x, dx) = [(x, oI C dx [])]) (hp : ∀ x dx, pre (a, x, dx)) (hr : ∀ x dx F v, (res (a, x, dx)).p F v → v = .non)
    (hoo : ∀ x dx, (Oo (a, x, dx)).map (·.1) = [x]) (k : ∀ x dx F' H', Ctx Z F' H' σ Γ (Oo (a, x, dx) ++ Ω) → Same F F' → Q (.ref x) H') (hro : Z.ro = [] := by rfl) : tMake C (CtM (fun b : α × Addr × Addr => args b.1 b.2.1) Oi pre res Oo) [] E t σ H Q :=
  h Z F H σ c _ fun vs F1 H1 c1 s1 rs => by
    intro x dx hx hd hne
    have c2 := (c1.grow (p := dx) (o := .own x) (A := ⟨fun _ _ => True, fun _ h => h⟩) hd trivial).tail
    have hx2 : upd H1 dx (.own x) x = none := by rw [upd_ne (Ne.symm hne)]; exact hx
    have c3 := c2.grow (p := x) (o := .ins C dx []) (A := oI C dx []) hx2 ⟨[], rfl, trivial⟩
    have c3' : Ctx Z F1 (upd (upd H1 dx (.own x)) x (.ins C dx [])) σ Γ (Oi (a, x, dx) ++ Ω) := by rw [hoi]; exact c3
    refine ⟨(a, x, dx), F1, c3.sub, ?_, c3'.own.sub fun y hy => List.mem_append_left _ hy, by rw [hoi]; simp, hp x dx, fun v F3 H3 e3 s3 rv ow => ⟨hr x dx _ _ rv, ?_⟩⟩
    · dsimp only
      rw [ha, List.append_nil]
      exact ⟨rfl, rs⟩
    · exact k x dx F3 H3 (c3'.changed e3 s3 ow (by rw [hoo, hoi]; rfl) hro) (s1.fe.trans e3.fe)
end
end Y

namespace Y
open PySem L2 PySem.Spec
open PyProof.Rows (envOfC)
/-! ## methods of the text -/
structure Tm (K : PySem.W.Frag) (C : Addr) (m qual : Str) (st : Stmt) (ps : List Str) : Prop where
  ex : ∃ f fd, Fun K m qual st f fd ∧ Meth K C m f ∧ Binds K fd ps []
structure Dm (P : Program) (w : World) (K : PySem.W.Frag) (mg : Str → Option Value) (base : Heap) (k : Nat) (C : Addr) (m : Str) (ps : List Str) (sp : Sp) : Prop where
  ex : ∃ f fd, Meth K C m f ∧ Binds K fd ps [] ∧ FnOk P w K mg base (L2.CX P w) k f fd ps sp
/-- __init__, with the defaults dvs that a call leaves out -/
structure Ti (K : PySem.W.Frag) (C : Addr) (qual : Str) (st : Stmt) (ps : List Str) (dvs : List V) : Prop where
  ex : ∃ f fd ds dall, Mk K C f ∧ FunD K "__init__" qual (defArgs st) (defBody st) (defScope st) dall [] f fd ∧ Vals dvs ds ∧ Binds K fd ps ds
structure Di (P : Program) (w : World) (K : PySem.W.Frag) (mg : Str → Option Value) (base : Heap) (k : Nat) (C : Addr) (ps : List Str) (dvs : List V) (sp : Sp) : Prop where
  ex : ∃ f fd ds, Mk K C f ∧ Vals dvs ds ∧ Binds K fd ps ds ∧ FnOk P w K mg base (L2.CX P w) k f fd ps sp
/-- a class of the text -/
structure Tc (K : PySem.W.Frag) (mg : Str → Option Value) (C : Addr) (x : Str) : Prop where
  g : mg x = some (.ref C)
  cl : Cls K C
section
variable {P : Program} {w : World} {K : PySem.W.Frag} {mg : Str → Option Value} {base : Heap} {C : Addr} {m qual : Str} {st : Stmt} {N ps : List Str} {k : Nat} {sp : Sp} {dvs : List V}
theorem Tm.ok (T : Tm K C m qual st ps) (S : FnScope N ps (defScope st)) (len : ∀ vs H Q E, sp vs H Q E → vs.length = ps.length)
    (hbody : ∀ (f : Addr) (cdv : Value) (A : Around) (outer : List Env) (s : Shared) (H : Hp) (vs : List V) (Q : VK) (E : XK), Room k (A.deeper (envOfC qual (defScope st) s.heap.objs.size f cdv)) → sp vs H Q E →
      ∃ t, PSs (cxOf CX0 P w K mg base N qual (defScope st) f cdv A outer s H E).nox (defBody st) t ∧ t { nx := fun _ H' => Q .non H', rt := Q } (L2.start N vs) H) : Dm P w K mg base (k + 1) C m ps sp := by
  obtain ⟨f, fd, F, hm, b⟩ := T.ex
  exact ⟨f, fd, hm, b, FnOk_x (F.ok S len (hbody f))⟩
theorem Ti.ok (T : Ti K C qual st ps dvs) (S : FnScope N ps (defScope st)) (len : ∀ vs H Q E, sp vs H Q E → vs.length = ps.length)
    (hbody : ∀ (f : Addr) (cdv : Value) (A : Around) (outer : List Env) (s : Shared) (H : Hp) (vs : List V) (Q : VK) (E : XK), Room k (A.deeper (envOfC qual (defScope st) s.heap.objs.size f cdv)) → sp vs H Q E →
      ∃ t, PSs (cxOf CX0 P w K mg base N qual (defScope st) f cdv A outer s H E).nox (defBody st) t ∧ t { nx := fun _ H' => Q .non H', rt := Q } (L2.start N vs) H) : Di P w K mg base (k + 1) C ps dvs sp := by
  obtain ⟨f, fd, ds, dall, M, F, hv, b⟩ := T.ex
  refine ⟨f, fd, ds, M, hv, b, FnOk_x (F.ok (CX := CX0) S len fun cdv A outer s H vs Q E hr hsp => ?_)⟩
  obtain ⟨t, h, q⟩ := hbody f cdv A outer s H vs Q E hr hsp
  exact ⟨t, h.nox, q⟩
theorem tm_mk {f : Addr} {oc : Value} {od an : Option Addr} {osl : Array (Option Value)} {kV doc pm cdv ct : Value} (a : PySem.W.findIn K (.ref C) m = some (some (.ref f))) (i : PySem.W.isFn K (.ref f) = true)
    (l : K.lookup f = some ⟨oc, od, .func (PySem.W.fnOf m qual (defArgs st) (defBody st) (defScope st) .none kV doc pm an cdv ct), osl⟩) (c : PySem.W.codeIn K cdv qual = true) (kk : PySem.W.keepIn K (.ref f) = true)
    (hb : ∀ (kV doc pm : Value) (an : Option Addr) (cdv ct : Value) (us : List Value), us.length = ps.length → bindArgs (PySem.W.fnOf m qual (defArgs st) (defBody st) (defScope st) .none kV doc pm an cdv ct) ⟨us, []⟩ = pure (ps.zip us)) : Tm K C m qual st ps :=
  ⟨f, _, fun_mk l c kk, ⟨a, i, kk⟩, (fun_mk l c kk).binds hb⟩
theorem ti_mk {f : Addr} {oc : Value} {od an : Option Addr} {osl : Array (Option Value)} {kV doc pm cdv ct : Value} (a : PySem.W.findIn K (.ref C) "__init__" = some (some (.ref f))) (i : PySem.W.isFn K (.ref f) = true)
    (l : K.lookup f = some ⟨oc, od, .func (PySem.W.fnOf "__init__" qual (defArgs st) (defBody st) (defScope st) .none kV doc pm an cdv ct), osl⟩) (c : PySem.W.codeIn K cdv qual = true) (kk : PySem.W.keepIn K (.ref f) = true)
    (mk : PySem.W.makesIn K C = true) (kc : PySem.W.keepIn K (.ref C) = true)
    (hb : ∀ (kV doc pm : Value) (an : Option Addr) (cdv ct : Value) (us : List Value), us.length = ps.length → bindArgs (PySem.W.fnOf "__init__" qual (defArgs st) (defBody st) (defScope st) .none kV doc pm an cdv ct) ⟨us, []⟩ = pure (ps.zip us)) : Ti K C qual st ps [] :=
  ⟨f, _, [], [], ⟨mk, a, i, kc⟩, ⟨⟨oc, od, .none, kV, doc, pm, an, cdv, ct, osl, rfl, l, c, .inl ⟨rfl, rfl⟩, .inl rfl⟩, kk⟩, .nil, (fun_mk (st := st) l c kk).binds hb⟩
/-- .. with one default that is a number, left out -/
theorem ti_mk1 {f T : Addr} {d : Int} {tk : Tok} {o1 : Value} {o2 : Option Addr} {o4 : Array (Option Value)} {nn : Nat} {oc : Value} {od an : Option Addr} {osl : Array (Option Value)} {kV doc pm cdv ct : Value} {n : Nat} (a : PySem.W.findIn K (.ref C) "__init__" = some (some (.ref f))) (i : PySem.W.isFn K (.ref f) = true)
    (l : K.lookup f = some ⟨oc, od, .func (PySem.W.fnOf "__init__" qual (defArgs st) (defBody st) (defScope st) (.ref T) kV doc pm an cdv ct), osl⟩) (c : PySem.W.codeIn K cdv qual = true) (kk : PySem.W.keepIn K (.ref f) = true)
    (mk : PySem.W.makesIn K C = true) (kc : PySem.W.keepIn K (.ref C) = true) (lT : K.lookup T = some ⟨o1, o2, .seq #[.int d tk] nn, o4⟩) (hn : n + 1 = ps.length)
    (hb : ∀ (T : Addr) (kV doc pm : Value) (an : Option Addr) (cdv ct : Value) (us its : List Value), us.length = n → its.length = 1 →
      ∃ k, bindArgs (PySem.W.fnOf "__init__" qual (defArgs st) (defBody st) (defScope st) (.ref T) kV doc pm an cdv ct) ⟨us, []⟩ = seqItems? (.ref T) >>= k ∧ k (some its.toArray) = pure (ps.zip (us ++ its.drop 0))) : Ti K C qual st ps [.int d] := by
  have F : FunD K "__init__" qual (defArgs st) (defBody st) (defScope st) [.int d] [] f (PySem.W.fnOf "__init__" qual (defArgs st) (defBody st) (defScope st) (.ref T) kV doc pm an cdv ct) :=
    ⟨⟨oc, od, .ref T, kV, doc, pm, an, cdv, ct, osl, rfl, l, c, .inr ⟨(fun z => by cases z), T, _, [.int d tk], nn, rfl, lT, rfl, .cons ⟨tk, rfl⟩ .nil⟩, .inl rfl⟩, kk⟩
  obtain ⟨ds, hv, b⟩ := F.binds1 (ps := ps) n 0 (fun z => by cases z) hn hb
  exact ⟨f, _, ds, _, ⟨mk, a, i, kc⟩, F, hv, b⟩
section
variable {X : Cx} {C : Addr} {m x : Str} {ps : List Str} {sp : Sp} {k : Nat} {p pos apos : Pos} {e o : Expr} {es : List Expr} {t : TA} {ta : TE}
theorem pe_dm {pl : Sem Bool} (he : PE X o ta) (c : Cls X.K C) (D : Dm X.prog X.w X.K X.mg X.base k C m ps sp) (hr : Room k X.A) (ha : PA X (e :: es) t)
    (hst : starEach (e :: es) X.env = (false, eval e X.env) :: starEach es X.env := by rfl) (hpl : (backTo pos (starEach es X.env)).any (·.1) = false := by rfl)
    (ht : eval (.Call (.Attribute o m apos) (e :: es) [] pos) X.env = (do
      let ov ← eval o X.env
      standAt apos.atName
      let (f, first) ← holding [ov] (getMethod ov m pl)
      callWith pos f first (backTo pos (starEach (e :: es) X.env)) (backToKw pos (keywordEach [] X.env))) := by rfl) :
    PE X (.Call (.Attribute o m apos) (e :: es) [] pos) (tMeth C m sp [] E0 ta t) := by
  obtain ⟨f, fd, hm, b, G⟩ := D.ex
  exact pe_meth he c hm G hr b .nil passL ha hst hpl ht
theorem pe_dm0 {pl : Sem Bool} (he : PE X o ta) (c : Cls X.K C) (D : Dm X.prog X.w X.K X.mg X.base k C m ps sp) (hr : Room k X.A)
    (ht : eval (.Call (.Attribute o m apos) [] [] pos) X.env = (do
      let ov ← eval o X.env
      standAt apos.atName
      let (f, first) ← holding [ov] (getMethod ov m pl)
      callWith pos f first (backTo pos (starEach [] X.env)) (backToKw pos (keywordEach [] X.env))) := by rfl) :
    PE X (.Call (.Attribute o m apos) [] [] pos) (tMeth C m sp [] E0 ta tNil) := by
  obtain ⟨f, fd, hm, b, G⟩ := D.ex
  exact pe_meth0 he c hm G hr b .nil passL ht
theorem pe_di {dvs : List V} (D : Di X.prog X.w X.K X.mg X.base k C ps dvs sp) (hr : Room (k + 1) X.A) (hg : Gl X x) (hm : X.mg x = some (.ref C)) (ha : PA X (e :: es) t) (hdb : (x == ("__debug__" : Str)) = false := by decide)
    (he : starEach (e :: es) X.env = (false, eval e X.env) :: starEach es X.env := by rfl) (hpl : (backTo pos (starEach es X.env)).any (·.1) = false := by rfl) :
    PE X (.Call (.Name x p) (e :: es) [] pos) (tMake C sp dvs E0 t) := by
  obtain ⟨f, fd, ds, M, hv, b, G⟩ := D.ex
  exact pe_make M G hr hg hm b hv passL ha hdb he hpl
theorem pe_di0 {dvs : List V} (D : Di X.prog X.w X.K X.mg X.base k C ps dvs sp) (hr : Room (k + 1) X.A) (hg : Gl X x) (hm : X.mg x = some (.ref C)) (hdb : (x == ("__debug__" : Str)) = false := by decide) :
    PE X (.Call (.Name x p) [] [] pos) (tMake C sp dvs E0 tNil) := by
  obtain ⟨f, fd, ds, M, hv, b, G⟩ := D.ex
  exact pe_make0 M G hr hg hm b hv passL hdb
end
end
end Y

namespace Y
open PySem L2 PySem.Spec
open PyProof.Rows (envOfC)
/-! ## max(xs, default=d), xs a list of ints -/
theorem ints_hold {h : Heap} : ∀ {vs : List Value} {ns : List Int}, PyProof.Rows.IntsAre vs ns → ∃ as, ReadsAll h vs (ns.map PyData.int) as
  | _, _, .nil => ⟨[], .nil⟩
  | _, _, .cons _ _ r => by
    obtain ⟨as, e⟩ := ints_hold (h := h) r
    exact ⟨_, .cons (.int _ _) e⟩
def maxI (d : Int) : List Int → Int
  | [] => d
  | y :: ys => ys.foldl max y
theorem foldl_max (ys : List Int) : ∀ y : Int, ys.foldl (fun a y => if decide (a < y) = true then y else a) y = ys.foldl max y := by
  induction ys with
  | nil => intro y; rfl
  | cons x xs ih =>
    intro y
    rw [List.foldl_cons, List.foldl_cons, ih]
    congr 1
    by_cases h : y < x
    · rw [if_pos (by simpa using h)]; omega
    · rw [if_neg (by simpa using h)]; omega
theorem foldl_max_ge (ys : List Int) : ∀ y : Int, y ≤ ys.foldl max y ∧ ∀ z ∈ ys, z ≤ ys.foldl max y := by
  induction ys with
  | nil => intro y; exact ⟨Int.le_refl _, fun _ h => absurd h List.not_mem_nil⟩
  | cons x xs ih =>
    intro y
    rw [List.foldl_cons]
    obtain ⟨h1, h2⟩ := ih (max y x)
    refine ⟨by omega, fun z hz => ?_⟩
    rcases List.mem_cons.mp hz with e | e
    · subst e; omega
    · exact h2 z e
theorem foldl_max_mem (ys : List Int) : ∀ y : Int, ys.foldl max y ∈ y :: ys := by
  induction ys with
  | nil => intro y; exact List.mem_singleton.mpr rfl
  | cons x xs ih =>
    intro y
    rw [List.foldl_cons]
    rcases List.mem_cons.mp (ih (max y x)) with e | e
    · rw [e]
      by_cases h : y < x
      · rw [show max y x = x by omega]; exact List.mem_cons_of_mem _ List.mem_cons_self
      · rw [show max y x = y by omega]; exact List.mem_cons_self
    · exact List.mem_cons_of_mem _ (List.mem_cons_of_mem _ e)
theorem maxI_ge {d : Int} {ns : List Int} : ∀ z ∈ ns, z ≤ maxI d ns := by
  cases ns with
  | nil => exact fun _ h => absurd h List.not_mem_nil
  | cons y ys =>
    intro z hz
    obtain ⟨h1, h2⟩ := foldl_max_ge ys y
    rcases List.mem_cons.mp hz with e | e
    · rw [e]; exact h1
    · exact h2 z e
theorem maxI_mem {d : Int} {ns : List Int} (h : ns ≠ []) : maxI d ns ∈ ns := by
  cases ns with
  | nil => exact absurd rfl h
  | cons y ys => exact foldl_max_mem ys y
def rMaxDf (K : PySem.W.Frag) : List V → List V → Hp → VK → Prop := fun vs zs H Q => ∃ (a : Addr) (ns : List Int) (d : Int), vs = [V.ref a] ∧ zs = [V.int d] ∧ SqL K H a (ns.map V.int) ∧ Q (.int (maxI d ns)) H
theorem cr_maxDf {X : Cx} (hc : X.calm = true) (hu : X.A.units + 64 < cLine) : CallRK X (.builtin "max") [Str.ofString "default"] (rMaxDf X.K) := by
  intro pins s σ H vs zs us ws Q I r rz h
  obtain ⟨a, ns, d, rfl, rfl, hs, q⟩ := h
  obtain rfl := Vals.ref1 r
  obtain ⟨w1, rfl, ⟨t, rfl⟩⟩ := vals1 rz
  obtain ⟨its, rv, hl, _⟩ := I.list hs
  have hi := rv.ints
  obtain ⟨as, ra⟩ := ints_hold (h := s.heap) hi
  refine PySem.W.max_list_datum_default (α := Int) (xs := ns) (I.ok.hd hc) hl.isList ⟨as, ra⟩ (by show X.A.units + 1 + 0 < cLine; omega) (fun e h' tk hk => ?_) (fun y ys i v h' tk e _ hv hk => ?_)
  · subst e
    exact ⟨.int d, H, I.kept hk, ⟨t, rfl⟩, q⟩
  · subst e
    obtain ⟨bs, rd⟩ := hv
    obtain ⟨t', rfl⟩ : ∃ t', v = .int (PySem.W.maxOf y ys) t' := by
      cases rd
      exact ⟨_, rfl⟩
    refine ⟨.int (maxI d (y :: ys)), H, I.kept hk, ⟨t', ?_⟩, q⟩
    show Value.int _ _ = Value.int _ _
    congr 1
    exact foldl_max ys y
theorem ev_maxDf {Γ : Gm} {Ω : Om} {K : PySem.W.Frag} {ta tk : TA} {α : Type} {xs : List α} {g : α → Int} {d : Int} (ha : EvA Γ Ω ta [Ls K (xs.map fun x => I (g x))]) (hk : EvA Γ Ω tk [I d]) : Ev Γ Ω (tCKw (rMaxDf K) ta tk) (I (maxI d (xs.map g))) := fun Z F H σ c Q q => ha Z F H σ c _ fun vs F1 H1 c1 s1 r1 => hk Z F1 H1 σ c1 _ fun zs F2 H2 c2 s2 r2 => by
  obtain ⟨v, rfl, a, ys, e, hs, hl⟩ := r1.one
  obtain ⟨z, rfl, e2⟩ := r2.one
  cases e
  cases e2
  have w := all_map hl
  subst w
  exact ⟨a, xs.map g, d, rfl, rfl, c2.sub.seq (s2.fe.seq hs), q _ F2 H2 c2 (s1.trans s2) rfl⟩
end Y

namespace Y
open PySem L2 PySem.Spec
open PyProof.Rows (envOfC)
/-! ## what is handed out new and may be changed -/
/-- an expression whose value is a new thing, owned: A -/
def EvNw (Γ : Gm) (Ω : Om) (te : TE) (A : OA) : Prop := ∀ (Z : Bs) (F H : Hp) (σ : L2.St), Ctx Z F H σ Γ Ω → ∀ Q : VK, (∀ p F' H', Ctx Z F' H' σ Γ ((p, A) :: Ω) → Ext [] F H F' H' → H p = none → Q (.ref p) H') → te σ H Q
/-- a contract: it changes nothing and hands out a new thing, as post tells of it -/
def CtO {α β : Type} (args : α → List As) (pre : α → Prop) (post : α → β → Prop) (A : β → OA) : Sp := fun vs H Q _ =>
  ∃ a F, Same F H ∧ All F (args a) vs ∧ pre a ∧ ∀ b p F' H', post a b → Ext [] F H F' H' → Same F' H' → Own F' H' [(p, A b)] → H p = none → Q (.ref p) H'
theorem CtO.len {α β : Type} {args : α → List As} {pre : α → Prop} {post : α → β → Prop} {A : β → OA} {n : Nat} (h : ∀ a, (args a).length = n) : ∀ vs H Q E, CtO args pre post A vs H Q E → vs.length = n := by
  rintro vs H Q E ⟨a, F, _, ha, _⟩
  rw [ha.length, h]
section
variable {Z : Bs} {F H F' H' : Hp} {σ σ' : L2.St} {Γ Γ' : Gm} {Ω Ω' : Om} {K : PySem.W.Frag} {te ta tb tl : TE} {tt : TT} {R Rx Ry : As} {Rs Ss : List As} {n : L2.St → Hp → Prop} {r : VK} {bk ct : L2.St → Hp → Prop}
theorem Ctx.add {p : Addr} {A : OA} (c : Ctx Z F H σ Γ Ω) (e : Ext [] F H F' H') (s : Same F' H') (o : Own F' H' [(p, A)]) (hp : H p = none) : Ctx Z F' H' σ Γ ((p, A) :: Ω) := by
  have c2 := c.step e s
  refine ⟨c2.sat, s, fun x hx => ?_, ?_, fun x hx => ?_, c2.ext, c2.pin⟩
  · rcases List.mem_cons.mp hx with z | hx
    · subst z; exact o _ List.mem_cons_self
    · exact c2.own x hx
  · rw [List.map_cons, List.nodup_cons]
    refine ⟨fun hx => ?_, c.nd⟩
    obtain ⟨x, hx, z⟩ := List.mem_map.mp hx
    obtain ⟨_, o', h2, _⟩ := c.own x hx
    have z : x.1 = p := z
    rw [z, hp] at h2
    cases h2
  · rcases List.mem_cons.mp hx with z | hx
    · subst z; exact .inr (.inl (c.ext.dm _ hp))
    · exact c.loc x hx
/-- f(e, ..), f hands out something new -/
theorem eo_call {α β : Type} {args : α → List As} {pre : α → Prop} {post : α → β → Prop} {A : β → OA} {E : XK} {ta : TA} (a : α) (h : EvA Γ Ω ta (args a)) (hp : pre a) (Q : VK) (c : Ctx Z F H σ Γ Ω) (k : ∀ b p F' H', post a b → Ctx Z F' H' σ Γ ((p, A b) :: Ω) → Same F F' → Q (.ref p) H') : tCall (CtO args pre post A) [] E ta σ H Q :=
  h Z F H σ c _ fun vs F1 H1 c1 s1 rs => ⟨a, F1, c1.sub, by rw [List.append_nil]; exact rs, hp, fun b p F2 H2 hb e2 s2 o hn => k b p F2 H2 hb (c1.add e2 s2 o hn) (s1.trans e2).fe⟩
theorem st_callO {α β : Type} {args : α → List As} {pre : α → Prop} {post : α → β → Prop} {A : β → OA} {E : XK} {ta : TA} {i : Nat} (a : α) (c : Ctx Z F H σ Γ Ω) (h : EvA Γ Ω ta (args a)) (hp : pre a) (k : ∀ b p F' H' σ', post a b → Ctx Z F' H' σ' (Γ.set i (some (Rf p))) ((p, A b) :: Ω) → Same F F' → n σ' H') : tAsg (tCall (CtO args pre post A) [] E ta) (gName i) ⟨n, r, bk, ct⟩ σ H :=
  eo_call a h hp _ c fun b p F' H' hb c2 s => k b p F' H' _ hb (c2.set i rfl) s
/-- x = something new -/
theorem st_setO {A : OA} {i : Nat} (c : Ctx Z F H σ Γ Ω) (e : EvNw Γ Ω te A) (k : ∀ p F' H' σ', Ctx Z F' H' σ' (Γ.set i (some (Rf p))) ((p, A) :: Ω) → Same F F' → n σ' H') : tAsg te (gName i) ⟨n, r, bk, ct⟩ σ H :=
  e Z F H σ c _ fun p F' H' c2 s _ => k p F' H' _ (c2.set i rfl) s.fe
/-- return something new -/
theorem st_retO {A : OA} (c : Ctx Z F H σ Γ Ω) (e : EvNw Γ Ω te A) (k : ∀ p F' H', Ctx Z F' H' σ Γ ((p, A) :: Ω) → Same F F' → Z.H p = none → r (.ref p) H') : tRet te ⟨n, r, bk, ct⟩ σ H :=
  e Z F H σ c _ fun p F' H' c2 s h => k p F' H' c2 s.fe (c.ext.dm _ h)
/-- return x, x owned -/
theorem st_retOV {A : OA} {p : Addr} {j : Nat} (c : Ctx Z F H σ Γ Ω) (h : Ev Γ Ω te (Rf p)) (hm : Ω[j]? = some (p, A)) (hz : Z.ft = []) (k : ∀ F' H', Ctx Z F' H' σ Γ Ω → Own F' H' [(p, A)] → Z.H p = none → r (.ref p) H') (hro : Z.ro = [] := by rfl) : tRet te ⟨n, r, bk, ct⟩ σ H :=
  h Z F H σ c _ fun v F1 H1 c1 s1 rv => by
    cases rv
    refine k F1 H1 c1 (fun x hx => ?_) ?_
    · rw [List.mem_singleton.mp hx]; exact c1.own _ (List.mem_of_getElem? hm)
    · rcases c1.loc _ (List.mem_of_getElem? hm) with l | l | l
      · rw [hz] at l; exact absurd l List.not_mem_nil
      · exact l
      · rw [hro] at l; exact absurd l List.not_mem_nil
theorem own_head {p : Addr} {A : OA} (c : Ctx Z F H σ Γ ((p, A) :: Ω)) : Own F H [(p, A)] := fun x hx => by
  rw [List.mem_singleton.mp hx]; exact c.own _ List.mem_cons_self
/-- a comprehension's list, owned -/
theorem eo_lc {α : Type} {wi : TI} {xs : List α} {f : α → As} {g : TG} {vs : List Nat} (G' : α → Gm) (cd : α → Bool) (res : α → As) {ws : List Nat} (e : Src Γ Ω wi xs f) (hg : ∀ x, Gt (wipeG Γ vs) (f x) g (G' x) ws) (hw : ∀ i ∈ ws, i ∈ vs)
    (ht : ∀ x ∈ xs, EvT (G' x) Ω tt (cd x)) (he : ∀ x ∈ xs, cd x = true → Ev (G' x) Ω te (res x)) (hlen : xs.length ≤ 100000) : EvNw Γ Ω (tLc wi g tt te vs) (oL ((xs.filter cd).map res)) := fun Z F H σ c Q q =>
  e Z F H σ c _ fun J F1 H1 c1 s1 src => by
    intro D hD
    have cw : Ctx Z F1 H1 (L2.wipe σ vs) (wipeG Γ vs) Ω := c1.slots (c1.sat.wipe vs)
    let Pv : Nat → Hp → Prop := (fun k H' => ∃ F' acc, H' D = some (.lst acc) ∧ acc.length ≤ k ∧ All F' (((xs.take k).filter cd).map res) acc ∧ F' D = none ∧ ∃ G, Ctx Z F' G (L2.wipe σ vs) (wipeG Γ vs) Ω ∧ Ext [] F1 H1 F' G ∧ G D = none ∧ H' = upd G D (.lst acc))
    refine ⟨fun i m H => m = xs.length - i ∧ i ≤ xs.length ∧ Pv i H, ⟨_, rfl, Nat.zero_le _, F1, [], upd_same, Nat.zero_le _, trivial, c1.sub.free hD, H1, cw, Ext.refl _ _ _, hD, rfl⟩, ?_⟩
    rintro k m Hc ⟨rfl, hkn, pk⟩
    rcases Nat.lt_or_eq_of_le hkn with hk | hk
    · obtain ⟨F', acc, hA, hlA, hall, hFD, G, cG, eG, hGD, rfl⟩ := pk
      have hx : xs[k]? = some xs[k] := List.getElem?_eq_getElem hk
      have hmem : xs[k] ∈ xs := List.getElem_mem hk
      have cA0 : Ctx Z F' (upd G D (.lst acc)) (L2.wipe σ vs) (wipeG Γ vs) Ω := (cG.grow (A := ⟨fun _ _ => True, fun _ h => h⟩) (p := D) (o := .lst acc) hGD trivial).tail
      obtain ⟨go, yl⟩ := (src Z F' _ _ _ _ cA0 eG.fe).2 k xs[k] hx
      refine .inr ⟨go, Pv (k + 1), fun H' p' => ⟨xs.length - (k + 1), by omega, rfl, hk, p'⟩, fun y H' hy => ?_⟩
      obtain ⟨F0, e0, s0, ry⟩ := yl y H' hy
      -- the list that is being made, as something owned
      have cA : Ctx Z F0 H' (L2.wipe σ vs) (wipeG Γ vs) Ω := cA0.step e0 s0
      have pres : ∀ {F2 H2 : Hp}, Ext [] F' (upd G D (.lst acc)) F2 H2 → H2 D = some (.lst acc) := fun e2 => e2.fr D _ upd_same List.not_mem_nil
      have back : ∀ {F2 H2 : Hp} {σ2 : L2.St} {Γ2 : Gm}, Ctx Z F2 H2 σ2 Γ2 Ω → Ext [] F' (upd G D (.lst acc)) F2 H2 → F2 D = none ∧ ∃ G2, Ctx Z F2 G2 (L2.wipe σ vs) (wipeG Γ vs) Ω ∧ Ext [] F1 H1 F2 G2 ∧ G2 D = none ∧ ∀ o, upd H2 D o = upd G2 D o := fun {F2 H2 σ2 Γ2} c2 e2 => by
        have f2 : F2 D = none := e2.nw D (by rw [upd_same]; exact fun z => by cases z) hFD
        let G2 : Hp := fun b => if b = D then none else H2 b
        have g2 : ∀ b, b ≠ D → G2 b = H2 b := fun b hb => if_neg hb
        have gD : G2 D = none := if_pos rfl
        have hext : Ext [] F' G F2 G2 := by
          refine ⟨e2.fe, fun b o h hn => ?_, fun b h => ?_, fun b h1 h2 => ?_⟩
          · have hb : b ≠ D := ne_of_none h hGD
            rw [g2 b hb]
            exact e2.fr b o (by rw [upd_ne hb]; exact h) hn
          · by_cases hb : b = D
            · rw [hb]; exact hGD
            · rw [g2 b hb] at h
              have := e2.dm b h
              rw [upd_ne hb] at this
              exact this
          · have hb : b ≠ D := fun z => h1 (by rw [z]; exact hGD)
            exact e2.nw b (by rw [upd_ne hb]; exact h1) h2
        have hsub : Same F2 G2 := fun b o h => by
          have hb : b ≠ D := ne_of_none h f2
          rw [g2 b hb]
          exact c2.sub b o h
        refine ⟨f2, G2, cG.step hext hsub, eG.trans hext, gD, fun o => ?_⟩
        funext b
        unfold upd
        by_cases hb : b = D
        · rw [if_pos hb, if_pos hb]
        · rw [if_neg hb, if_neg hb, g2 b hb]
      refine hg xs[k] Z F0 _ (L2.wipe σ vs) y Ω cA ry _ fun σ2 c2 hσ => ⟨(hσ vs hw).trans ?_, ?_⟩
      · exact wipe_wipe σ vs
      refine ht xs[k] hmem Z F0 _ σ2 c2 _ fun F3 H3 c3 e3' => ?_
      have e3 := e0.trans e3'
      cases hc : cd xs[k] with
      | false =>
        refine iteF ?_
        obtain ⟨f3, G3, cG3, eG3, gD3, up3⟩ := back c3 e3
        refine ⟨F3, acc, pres e3, by omega, ?_, f3, G3, cG3, eG3, gD3, ?_⟩
        · rw [filter_take hx, hc, if_neg Bool.false_ne_true, List.append_nil]
          exact hall.mono e3.fe
        · have := up3 (.lst acc)
          rw [← this]
          funext b
          unfold upd
          by_cases hb : b = D
          · rw [if_pos hb, hb]; exact pres e3
          · rw [if_neg hb]
      | true =>
        refine iteT ?_
        refine he xs[k] hmem hc Z F3 H3 σ2 c3 _ fun w F4 H4 c4 e4 rw' => ?_
        have e34 := e3.trans e4
        obtain ⟨f4, G4, cG4, eG4, gD4, up4⟩ := back c4 e34
        refine ⟨acc, pres e34, Nat.lt_of_le_of_lt (Nat.le_trans hlA (Nat.le_of_lt (Nat.lt_of_lt_of_le hk hlen))) (by decide), F4, acc ++ [w], upd_same, by rw [List.length_append]; exact Nat.succ_le_succ hlA, ?_, f4, G4, cG4, eG4, gD4, up4 _⟩
        rw [filter_take hx, hc, if_pos rfl, List.map_append]
        exact (hall.mono e34.fe).app ⟨rw', trivial⟩
    · subst hk
      obtain ⟨F', acc, hA, _, hall, hFD, G, cG, eG, hGD, rfl⟩ := pk
      have cA0 : Ctx Z F' (upd G D (.lst acc)) (L2.wipe σ vs) (wipeG Γ vs) Ω := (cG.grow (A := ⟨fun _ _ => True, fun _ h => h⟩) (p := D) (o := .lst acc) hGD trivial).tail
      refine .inl ⟨(src Z F' _ _ _ _ cA0 eG.fe).1, ?_⟩
      rw [List.take_length] at hall
      exact q D F' _ (((c1.step eG cG.sub).grow (A := oL ((xs.filter cd).map res)) hGD ⟨acc, rfl, hall⟩)) (s1.trans (eG.trans (Ext.newH hGD))) (s1.dm _ (eG.dm _ hGD)) 
/-- list(x), owned -/
theorem eo_listLk {ta : TE} (ha : Lk K Γ Ω ta Rs) : EvNw Γ Ω (tCB (fun xs H Q => ∃ p ys, xs = [.ref p] ∧ (SqL K H p ys ∨ SqT K H p ys) ∧ ∀ l, H l = none → Q (.ref l) (upd H l (.lst ys))) (tCons ta tNil)) (oL Rs) := fun Z F H σ c Q q =>
  ha Z F H σ c _ fun a F1 H1 c1 s1 hs => by
    obtain ⟨xs, hs1, hl⟩ := hs F1 H1 c1 (Same.refl _)
    exact ⟨a, xs, rfl, .inl hs1, fun p hp => q p F1 _ (c1.grow (A := oL Rs) hp ⟨xs, rfl, hl⟩) (s1.trans (Ext.newH hp)) (s1.dm _ hp)⟩
/-- something new, frozen at once -/
theorem ev_ofNw (e : EvNw Γ Ω te (oL Rs)) : Ev Γ Ω te (Ls K Rs) := fun Z F H σ c Q q => e Z F H σ c _ fun p F' H' c2 s hn => by
  obtain ⟨h1, o, h2, xs, eo, hx⟩ := c2.own _ List.mem_cons_self
  subst eo
  dsimp only at h1 h2
  have s2 : Same F' (upd F' p (.lst xs)) := fun a u q => by rw [upd_ne (ne_of_none q h1)]; exact q
  have nd := c2.nd
  rw [List.map_cons, List.nodup_cons] at nd
  have other : ∀ x ∈ Ω, x.1 ≠ p := fun x hx z => nd.1 (List.mem_map.mpr ⟨x, hx, z⟩)
  have sub2 : Same (upd F' p (.lst xs)) H' := fun a u q => by
    by_cases z : a = p
    · rw [z] at q ⊢; rw [upd_same] at q; rw [← q]; exact h2
    · rw [upd_ne z] at q; exact c2.sub a u q
  have c3 : Ctx Z (upd F' p (.lst xs)) H' σ Γ Ω := by
    refine ⟨c2.sat.mono s2, sub2, fun x hx => ?_, nd.2, fun x hx => c2.loc x (List.mem_cons_of_mem _ hx), ⟨c2.ext.fe.trans s2, c2.ext.fr, c2.ext.dm, fun a g1 g2 => ?_⟩, c2.pin.trans s2⟩
    · obtain ⟨k1, o', k2, k3⟩ := c2.own x (List.mem_cons_of_mem _ hx)
      exact ⟨by rw [upd_ne (other x hx)]; exact k1, o', k2, x.2.mono s2 k3⟩
    · have z : a ≠ p := fun z => g1 (by rw [z]; exact c.ext.dm _ hn)
      rw [upd_ne z]
      exact c2.ext.nw a g1 g2
  refine q _ _ H' c3 ⟨s.fe.trans s2, s.fr, s.dm, fun a g1 g2 => ?_⟩ ⟨p, xs, rfl, SqL.of upd_same, hx.mono s2⟩
  have z : a ≠ p := fun z => g1 (by rw [z]; exact hn)
  rw [upd_ne z]
  exact s.nw a g1 g2
/-- f(e, ..), f hands out something new, one and the same kind: frozen at once -/
theorem nw_call {α β : Type} {args : α → List As} {pre : α → Prop} {post : α → β → Prop} {A : β → OA} {E : XK} {ta : TA} {B0 : OA} (a : α) (h : EvA Γ Ω ta (args a)) (hp : pre a) (hb : ∀ b, post a b → A b = B0) : EvNw Γ Ω (tCall (CtO args pre post A) [] E ta) B0 := fun Z F H σ c Q q =>
  h Z F H σ c _ fun vs F1 H1 c1 s1 rs => ⟨a, F1, c1.sub, by rw [List.append_nil]; exact rs, hp, fun b p F2 H2 hpb e2 s2 o hn => by
    have o' : Own F2 H2 [(p, B0)] := by rw [← hb b hpb]; exact o
    exact q p F2 H2 (c1.add e2 s2 o' hn) (s1.trans e2) (s1.dm _ hn)⟩
/-- f(e, ..), f reads things that are owned -/
theorem ev_callR {α : Type} {args : α → List As} {Oi : α → Om} {pre : α → Prop} {res : α → As} {E : XK} {t : TA} (a : α) (h : EvA Γ Ω t (args a)) (hs : (Oi a).Sublist Ω) (hp : pre a) : Ev Γ Ω (tCall (CtR args Oi pre res) [] E t) (res a) := fun Z F H σ c Q q =>
  h Z F H σ c _ fun vs F1 H1 c1 s1 rs => ⟨a, F1, c1.sub, by rw [List.append_nil]; exact rs, c1.own.sub fun x hx => hs.subset hx, nodup_sub c1.nd hs, hp, fun v F2 H2 e2 s2 r => q v F2 H2 (c1.step e2 s2) (s1.trans e2) r⟩
theorem all_mapB {F : Hp} {α : Type} {g : α → Bool} : ∀ {xs : List α} {ys : List V}, All F (xs.map fun x => B (g x)) ys → ys = (xs.map g).map V.bl
  | [], [], _ => rfl
  | x :: xs, y :: ys, h => by
    have e : y = V.bl (g x) := h.1
    rw [e, all_mapB h.2]
    rfl
  | [], _ :: _, h => h.elim
  | _ :: _, [], h => h.elim
theorem rc_any {α : Type} {xs : List α} {g : α → Bool} : RC (rAny K) [Ls K (xs.map fun x => B (g x))] (B (xs.any g)) := fun F H vs s h Q q => by
  obtain ⟨v, rfl, a, ys, e, hs, hl⟩ := h.one
  cases e
  have z := all_mapB hl
  subst z
  refine ⟨a, xs.map g, rfl, s.seq hs, ?_⟩
  rw [List.any_map]
  exact q _ F H (Ext.refl _ _ _) s rfl
theorem rc_all {α : Type} {xs : List α} {g : α → Bool} : RC (rAll K) [Ls K (xs.map fun x => B (g x))] (B (xs.all g)) := fun F H vs s h Q q => by
  obtain ⟨v, rfl, a, ys, e, hs, hl⟩ := h.one
  cases e
  have z := all_mapB hl
  subst z
  refine ⟨a, xs.map g, rfl, s.seq hs, ?_⟩
  rw [List.all_map]
  exact q _ F H (Ext.refl _ _ _) s rfl
/-- an owned list (variable i) read as a frozen one by an expression whose value is a number, a truth value, a text or None -/
theorem ev_peek {p : Addr} {i j : Nat} {w : V} (hm : Ω[j]? = some (p, oL Rs)) (hi : Γ[i]? = some (some (Rf p))) (h : Ev (Γ.set i (some (Ls K Rs))) (Ω.eraseIdx j) te (Cst w)) : Ev Γ Ω te (Cst w) := fun Z F H σ c Q q => by
  obtain ⟨h1, o, h2, xs, eo, hx⟩ := c.own _ (List.mem_of_getElem? hm)
  subst eo
  dsimp only at h1 h2
  have s : Same F (upd F p (.lst xs)) := fun a u z => by rw [upd_ne (ne_of_none z h1)]; exact z
  have hsub : Same (upd F p (.lst xs)) H := fun a u z => by
    by_cases e : a = p
    · rw [e] at z ⊢; rw [upd_same] at z; rw [← z]; exact h2
    · rw [upd_ne e] at z; exact c.sub a u z
  have other : ∀ x ∈ Ω.eraseIdx j, x ∈ Ω ∧ x.1 ≠ p := fun x hx => by
    have hx' := List.mem_of_mem_eraseIdx hx
    refine ⟨hx', fun z => ?_⟩
    obtain ⟨k, hk⟩ := List.getElem?_of_mem hx
    rw [List.getElem?_eraseIdx] at hk
    split at hk
    · have a1 : (Ω.map (·.1))[k]? = some p := by rw [List.getElem?_map, hk, ← z]; rfl
      have a2 : (Ω.map (·.1))[j]? = some p := by rw [List.getElem?_map, hm]; rfl
      have := nd_ix c.nd a1 a2
      omega
    · have a1 : (Ω.map (·.1))[k + 1]? = some p := by rw [List.getElem?_map, hk, ← z]; rfl
      have a2 : (Ω.map (·.1))[j]? = some p := by rw [List.getElem?_map, hm]; rfl
      have := nd_ix c.nd a1 a2
      omega
  have c1 : Ctx ⟨upd F p (.lst xs), H, [], upd F p (.lst xs), (Ω.eraseIdx j).map (·.1)⟩ (upd F p (.lst xs)) H σ (Γ.set i (some (Ls K Rs))) (Ω.eraseIdx j) := by
    refine ⟨?_, hsub, fun x hx => ?_, ((List.eraseIdx_sublist Ω j).map _).nodup c.nd, fun x hx => .inr (.inr (List.mem_map.mpr ⟨x, hx, rfl⟩)), Ext.refl _ _ _, Same.refl _⟩
    · obtain ⟨v, e1, e2⟩ := (c.sat.mono s).get hi
      have e2 : v = .ref p := e2
      subst e2
      have z := (c.sat.mono s).set (R := Ls K Rs) (v := .ref p) ⟨p, xs, rfl, SqL.of upd_same, hx.mono s⟩ i
      have e3 : σ.set i (some (.ref p)) = σ := by
        apply List.ext_getElem?
        intro k
        rw [List.getElem?_set]
        split
        · rename_i hk
          subst hk
          split
          · exact e1.symm
          · rename_i hk
            rw [List.getElem?_eq_none (by omega)]
        · rfl
      rw [e3] at z
      exact z
    · obtain ⟨hx1, hx2⟩ := other x hx
      obtain ⟨k1, o', k2, k3⟩ := c.own x hx1
      exact ⟨by rw [upd_ne hx2]; exact k1, o', k2, x.2.mono s k3⟩
  refine h _ _ _ σ c1 Q fun v F3 H3 c3 e3 rv => ?_
  have e : Ext [] F H (fun b => if b = p then none else F3 b) H3 := by
    refine ⟨fun a u z => ?_, e3.fr, e3.dm, fun a g1 g2 => ?_⟩
    · show (if a = p then none else F3 a) = some u
      rw [if_neg (ne_of_none z h1)]
      exact e3.fe a u (s a u z)
    · show (if a = p then none else F3 a) = none
      by_cases z : a = p
      · rw [if_pos z]
      · rw [if_neg z]
        exact e3.nw a g1 (by rw [upd_ne z]; exact g2)
  have s' : Same (fun b => if b = p then none else F3 b) H3 := fun a u z => by
    by_cases w : a = p
    · have z : (if a = p then none else F3 a) = some u := z
      rw [if_pos w] at z; cases z
    · have z : (if a = p then none else F3 a) = some u := z
      rw [if_neg w] at z; exact c3.sub a u z
  exact q v _ H3 (c.step e s') e rv
end
end Y

namespace Y
open PySem L2 PySem.Spec
open PyProof.Rows (envOfC)
/-! ## errors: with fields, out of methods, named in a suite -/
/-- an error's own dict -/
def oXd (fs : List (Str × As)) : OA := ⟨fun F o => ∃ vs, o = .xd vs ∧ AllF F fs vs, fun s h => by
  obtain ⟨vs, e, q⟩ := h; exact ⟨vs, e, q.mono s⟩⟩
/-- may raise C with fields -/
def CtX {α : Type} (args : α → List As) (pre good : α → Prop) (res : α → As) (C : Addr) (xf : α → List (Str × As)) : Sp := fun vs H Q E =>
  ∃ a F, Same F H ∧ All F (args a) vs ∧ pre a ∧ (good a → ∀ v F' H', Ext [] F H F' H' → Same F' H' → (res a).p F' v → Q v H') ∧
    (¬ good a → ∀ d F' H', Ext [] F H F' H' → Same F' H' → Own F' H' [(d, oXd (xf a))] → H d = none → E (.ref C) (some d) H')
/-- a method that changes, or raises C with fields and leaves all as it was -/
def CtMX {α : Type} (args : α → List As) (Oi : α → Om) (pre good : α → Prop) (res : α → As) (Oo : α → Om) (C : Addr) (xf : α → List (Str × As)) : Sp := fun vs H Q E =>
  ∃ a F, Same F H ∧ All F (args a) vs ∧ Own F H (Oi a) ∧ ((Oi a).map (·.1)).Nodup ∧ pre a ∧
    (good a → ∀ v F' H', Ext ((Oi a).map (·.1)) F H F' H' → Same F' H' → (res a).p F' v → Own F' H' (Oo a) → Q v H') ∧
    (¬ good a → ∀ d F' H', Ext ((Oi a).map (·.1)) F H F' H' → Same F' H' → Own F' H' ((d, oXd (xf a)) :: Oi a) → H d = none → E (.ref C) (some d) H')
/-- .. without fields -/
def CtME {α : Type} (args : α → List As) (Oi : α → Om) (pre good : α → Prop) (res : α → As) (Oo : α → Om) (C : Addr) : Sp := fun vs H Q E =>
  ∃ a F, Same F H ∧ All F (args a) vs ∧ Own F H (Oi a) ∧ ((Oi a).map (·.1)).Nodup ∧ pre a ∧
    (good a → ∀ v F' H', Ext ((Oi a).map (·.1)) F H F' H' → Same F' H' → (res a).p F' v → Own F' H' (Oo a) → Q v H') ∧
    (¬ good a → ∀ F' H', Ext ((Oi a).map (·.1)) F H F' H' → Same F' H' → Own F' H' (Oi a) → E (.ref C) none H')
section
variable {α : Type} {args : α → List As} {Oi Oo : α → Om} {pre good : α → Prop} {res : α → As} {C : Addr} {xf : α → List (Str × As)} {n : Nat}
theorem CtX.len (h : ∀ a, (args a).length = n) : ∀ vs H Q E, CtX args pre good res C xf vs H Q E → vs.length = n := by
  rintro vs H Q E ⟨a, F, _, ha, _⟩
  rw [ha.length, h]
theorem CtMX.len (h : ∀ a, (args a).length = n) : ∀ vs H Q E, CtMX args Oi pre good res Oo C xf vs H Q E → vs.length = n := by
  rintro vs H Q E ⟨a, F, _, ha, _⟩
  rw [ha.length, h]
theorem CtME.len (h : ∀ a, (args a).length = n) : ∀ vs H Q E, CtME args Oi pre good res Oo C vs H Q E → vs.length = n := by
  rintro vs H Q E ⟨a, F, _, ha, _⟩
  rw [ha.length, h]
end
/-! ### calls in a try (or in a def that lets the error out) -/
def tMethX (C : Addr) (m : Str) (sp : Sp) (E : L2.St → XK) (ta : TE) (t : TA) : TE := fun σ H Q => ta σ H fun x H1 => ∃ a dx fs, x = .ref a ∧ H1 a = some (.ins C dx fs) ∧ fs.lookup m = none ∧
  t σ H1 fun vs H2 => sp (x :: vs) H2 Q (E σ)
def tMakeX (C : Addr) (sp : Sp) (dvs : List V) (E : L2.St → XK) (t : TA) : TE := fun σ H Q => t σ H fun vs H1 => ∀ x dx, H1 x = none → H1 dx = none → dx ≠ x →
  sp (.ref x :: (vs ++ dvs)) (upd (upd H1 dx (.own x)) x (.ins C dx [])) (fun v H2 => v = .non ∧ Q (.ref x) H2) (E σ)
section
variable {X : Cx} {C : Addr} {m x : Str} {ps : List Str} {sp : Sp} {k : Nat} {p pos apos : Pos} {e o : Expr} {es : List Expr} {t : TA} {ta : TE} {W : WX}
theorem pe_dmS {pl : Sem Bool} (tk : Takes X W) (he : PE X o ta) (c : Cls X.K C) (D : Dm X.prog X.w X.K X.mg X.base k C m ps sp) (hr : Room k X.A) (ha : PA X (e :: es) t)
    (hst : starEach (e :: es) X.env = (false, eval e X.env) :: starEach es X.env := by rfl) (hpl : (backTo pos (starEach es X.env)).any (·.1) = false := by rfl)
    (ht : eval (.Call (.Attribute o m apos) (e :: es) [] pos) X.env = (do
      let ov ← eval o X.env
      standAt apos.atName
      let (f, first) ← holding [ov] (getMethod ov m pl)
      callWith pos f first (backTo pos (starEach (e :: es) X.env)) (backToKw pos (keywordEach [] X.env))) := by rfl) :
    PE X (.Call (.Attribute o m apos) (e :: es) [] pos) (tMethX C m sp (WE W) ta t) := by
  obtain ⟨f, fd, hm, b, G⟩ := D.ex
  refine ⟨fun pins s σ H Q I h => ?_⟩
  refine PySem.W.methodCall_KW (pl := pl) (thn (he.run pins s σ H _ I h) fun u s1 ⟨x, H1, I1, rx, a, dx, fs, ex, ea, l, q⟩ => ?_) ht
  subst ex
  obtain rfl : u = Value.ref a := rx
  refine getmeth_ok I1 ea c hm l ?_
  refine PySem.W.callWith_K (first := [.ref a]) (h₀ := X.base) I.ok.mod.kin hm.kp (thn (ha.run pos pins s1 σ H1 _ I1 q) fun us s2 ⟨vs, H2, I2, r, q2⟩ => ⟨I2.kIn, ?_⟩) hst hpl
  exact run_fnS (us := .ref a :: us) (vs := .ref a :: vs) G hr b (passAt tk σ) I2 (.cons rfl r) q2
theorem run_makeX {f : Addr} {fd : FuncData} {ds : List Value} {dvs : List V} {pins : List (Addr × Obj)} {σ : L2.St} {H : Hp} {s : Shared} {Q : VK} {us : List Value} {vs : List V} {E : XK} (M : Mk X.K C f) (F : FnOk X.prog X.w X.K X.mg X.base (L2.CX X.prog X.w) k f fd ps sp) (hr : Room (k + 1) X.A) (hb : Binds X.K fd ps ds) (hd : Vals dvs ds)
    (hx : PassesAt (L2.CX X.prog X.w) X σ E) (I : L2.Inv X pins σ H s) (r : Vals vs us)
    (h : ∀ x dx, H x = none → H dx = none → dx ≠ x → sp (.ref x :: (vs ++ dvs)) (upd (upd H dx (.own x)) x (.ins C dx [])) (fun v H2 => v = .non ∧ Q (.ref x) H2) E) :
    wpAny (model X.prog X.w) X.A (call (.ref C) us) (EP X pins σ Q) X.xe s := by
  have hq := h (s.heap.objs.size + 1) s.heap.objs.size (I.hok.fresh (Nat.le_succ _)) (I.hok.fresh (Nat.le_refl _)) (Nat.ne_of_lt (Nat.lt_succ_self _))
  have I2 := L2.Inv.made (C := C) I
  have r2 : Vals (V.ref (s.heap.objs.size + 1) :: (vs ++ dvs)) (Value.ref (s.heap.objs.size + 1) :: (us ++ ds)) := .cons rfl (r.append hd)
  have hl : (Value.ref (s.heap.objs.size + 1) :: us ++ ds).length = ps.length := by
    have e := r2.length
    rw [F.len _ _ _ _ hq] at e
    exact e.symm
  refine wpAny_call (make_map (f := f) I.kIn M.makes M.init (beq_iff_eq.mp M.fn) (codeAny_mono (F.run _ X.stack _ _ ⟨Value.ref (s.heap.objs.size + 1) :: us, []⟩ (Value.ref (s.heap.objs.size + 1) :: (us ++ ds)) _ _ E (hr.make C us [])
    (I2.env0.make C us []) (hb _ (Value.ref (s.heap.objs.size + 1) :: us) I2.kIn hl) r2 hq) fun r s' hq' => ?_))
  cases r with
  | error e => exact hx pins _ _ e s' I2 hq'
  | ok fl =>
    cases fl with
    | ret u =>
      obtain ⟨v, H', I3, rv, ev, q3⟩ := I2.after hq'
      subst ev
      exact ⟨rv, ⟨V.ref (s.heap.objs.size + 1), H', I3, rfl, q3⟩⟩
    | next => exact False.elim hq'
    | brk => exact False.elim hq'
    | cont => exact False.elim hq'
theorem pe_diS {dvs : List V} (tk : Takes X W) (D : Di X.prog X.w X.K X.mg X.base k C ps dvs sp) (hr : Room (k + 1) X.A) (hg : Gl X x) (hm : X.mg x = some (.ref C)) (ha : PA X (e :: es) t) (hdb : (x == ("__debug__" : Str)) = false := by decide)
    (he : starEach (e :: es) X.env = (false, eval e X.env) :: starEach es X.env := by rfl) (hpl : (backTo pos (starEach es X.env)).any (·.1) = false := by rfl) :
    PE X (.Call (.Name x p) (e :: es) [] pos) (tMakeX C sp dvs (WE W) t) := by
  obtain ⟨f, fd, ds, M, hv, b, G⟩ := D.ex
  refine ⟨fun pins s σ H Q I h => ?_⟩
  refine wpAny_Call_Name_kw (ld_glob I hg hm ?_ hdb)
  refine PySem.W.callWith_K (h₀ := X.base) I.ok.mod.kin M.kp (thn (ha.run pos pins s σ H _ I h) fun us s1 ⟨vs, H1, I1, r, q⟩ => ⟨I1.kIn, ?_⟩) he hpl
  exact run_makeX M G hr b hv (passAt tk σ) I1 r q
/-! ### raise -/
/-- X() -/
theorem pmk_ownZ {bmB : List Value} {B newId initId : String} (F : ExcBaseFacts B newId initId bmB) (q : PySem.W.excIn X.K C bmB newId = true) (gC : X.mg x = some (.ref C)) (kC : PySem.W.keepIn X.K (.ref C) = true) (r : Raises X (.ref C)) (hg : Gl X x)
    (hdb : (x == ("__debug__" : Str)) = false := by decide) : PMk X (.Call (.Name x p) [] [] pos) (fun _ H Q => Q (.ref C) none H) := by
  intro pins s σ H Q I h
  refine wpAny_Call_Name_kw (ld_glob I hg gC ?_ hdb)
  refine PySem.W.callWith_K0 I.kIn kC ?_
  show wpAny _ _ (call (.ref C) []) _ _ _
  obtain ⟨bm, N, nm, qn, bs, hdct, sn, sub, ab, col, dd, k0, k1, k2, k3, k5, mN, hC, hN, hni, T⟩ := exc_obj I.kIn q
  refine wpAny_call_exc_subT F T hC hN hni (fun h' e hm => ?_) (Nat.zero_le _)
  exact mk_of I hm r h (I.hok.gone hm.new)
end
/-- an error's class with its own __init__ -/
structure Te (K : PySem.W.Frag) (mg : Str → Option Value) (C : Addr) (x qual : Str) (st : Stmt) (ps : List Str) : Prop where
  ex : ∃ f fd, Fun K "__init__" qual st f fd ∧ PySem.W.findIn K (.ref C) "__init__" = some (some (.ref f)) ∧ PySem.W.typeIn K (.ref f) = some (.type "function") ∧ Binds K fd ps []
  g : mg x = some (.ref C)
  ox : OexC K C
structure De (P : Program) (w : World) (K : PySem.W.Frag) (mg : Str → Option Value) (base : Heap) (k : Nat) (C : Addr) (ps : List Str) (sp : Sp) : Prop where
  ex : ∃ f fd, PySem.W.findIn K (.ref C) "__init__" = some (some (.ref f)) ∧ PySem.W.typeIn K (.ref f) = some (.type "function") ∧ Binds K fd ps [] ∧ FnOk P w K mg base (L2.CX P w) k f fd ps sp
section
variable {P : Program} {w : World} {K : PySem.W.Frag} {mg : Str → Option Value} {base : Heap} {C : Addr} {m x qual : Str} {st : Stmt} {N ps : List Str} {k : Nat} {sp : Sp} {dvs : List V}
theorem Te.ok (T : Te K mg C x qual st ps) (S : FnScope N ps (defScope st)) (len : ∀ vs H Q E, sp vs H Q E → vs.length = ps.length)
    (hbody : ∀ (f : Addr) (cdv : Value) (A : Around) (outer : List Env) (s : Shared) (H : Hp) (vs : List V) (Q : VK) (E : XK), Room k (A.deeper (envOfC qual (defScope st) s.heap.objs.size f cdv)) → sp vs H Q E →
      ∃ t, PSs (cxOf CX0 P w K mg base N qual (defScope st) f cdv A outer s H E).nox (defBody st) t ∧ t { nx := fun _ H' => Q .non H', rt := Q } (L2.start N vs) H) : De P w K mg base (k + 1) C ps sp := by
  obtain ⟨f, fd, F, hi, ht, b⟩ := T.ex
  exact ⟨f, fd, hi, ht, b, FnOk_x (F.ok S len (hbody f))⟩
theorem Tm.okX (T : Tm K C m qual st ps) (S : FnScope N ps (defScope st)) (len : ∀ vs H Q E, sp vs H Q E → vs.length = ps.length)
    (hbody : ∀ (f : Addr) (cdv : Value) (A : Around) (outer : List Env) (s : Shared) (H : Hp) (vs : List V) (Q : VK) (E : XK), Room k (A.deeper (envOfC qual (defScope st) s.heap.objs.size f cdv)) → sp vs H Q E →
      ∃ t, PSs (cxOf (L2.CX P w) P w K mg base N qual (defScope st) f cdv A outer s H E) (defBody st) t ∧ t { nx := fun _ H' => Q .non H', rt := Q } (L2.start N vs) H) : Dm P w K mg base (k + 1) C m ps sp := by
  obtain ⟨f, fd, F, hm, b⟩ := T.ex
  exact ⟨f, fd, hm, b, F.okX S len (hbody f)⟩
theorem Ti.okX (T : Ti K C qual st ps dvs) (S : FnScope N ps (defScope st)) (len : ∀ vs H Q E, sp vs H Q E → vs.length = ps.length)
    (hbody : ∀ (f : Addr) (cdv : Value) (A : Around) (outer : List Env) (s : Shared) (H : Hp) (vs : List V) (Q : VK) (E : XK), Room k (A.deeper (envOfC qual (defScope st) s.heap.objs.size f cdv)) → sp vs H Q E →
      ∃ t, PSs (cxOf (L2.CX P w) P w K mg base N qual (defScope st) f cdv A outer s H E) (defBody st) t ∧ t { nx := fun _ H' => Q .non H', rt := Q } (L2.start N vs) H) : Di P w K mg base (k + 1) C ps dvs sp := by
  obtain ⟨f, fd, ds, dall, M, F, hv, b⟩ := T.ex
  exact ⟨f, fd, ds, M, hv, b, F.ok (CX := L2.CX P w) S len (hbody f)⟩
/-- __init__ with one default that is a number, which the call gives -/
theorem ti_mk1f {f T : Addr} {d : Int} {tk : Tok} {o1 : Value} {o2 : Option Addr} {o4 : Array (Option Value)} {nn : Nat} {oc : Value} {od an : Option Addr} {osl : Array (Option Value)} {kV doc pm cdv ct : Value} (a : PySem.W.findIn K (.ref C) "__init__" = some (some (.ref f))) (i : PySem.W.isFn K (.ref f) = true)
    (l : K.lookup f = some ⟨oc, od, .func (PySem.W.fnOf "__init__" qual (defArgs st) (defBody st) (defScope st) (.ref T) kV doc pm an cdv ct), osl⟩) (c : PySem.W.codeIn K cdv qual = true) (kk : PySem.W.keepIn K (.ref f) = true)
    (mk : PySem.W.makesIn K C = true) (kc : PySem.W.keepIn K (.ref C) = true) (lT : K.lookup T = some ⟨o1, o2, .seq #[.int d tk] nn, o4⟩)
    (hb : ∀ (T : Addr) (kV doc pm : Value) (an : Option Addr) (cdv ct : Value) (us its : List Value), us.length = ps.length → its.length = 1 →
      ∃ k, bindArgs (PySem.W.fnOf "__init__" qual (defArgs st) (defBody st) (defScope st) (.ref T) kV doc pm an cdv ct) ⟨us, []⟩ = seqItems? (.ref T) >>= k ∧ k (some its.toArray) = pure (ps.zip (us ++ its.drop 1))) : Ti K C qual st ps [] := by
  have F : FunD K "__init__" qual (defArgs st) (defBody st) (defScope st) [.int d] [] f (PySem.W.fnOf "__init__" qual (defArgs st) (defBody st) (defScope st) (.ref T) kV doc pm an cdv ct) :=
    ⟨⟨oc, od, .ref T, kV, doc, pm, an, cdv, ct, osl, rfl, l, c, .inr ⟨(fun z => by cases z), T, _, [.int d tk], nn, rfl, lT, rfl, .cons ⟨tk, rfl⟩ .nil⟩, .inl rfl⟩, kk⟩
  obtain ⟨ds, hv, b⟩ := F.binds1 (ps := ps) ps.length 1 (fun z => by cases z) rfl hb
  exact ⟨f, _, ds, _, ⟨mk, a, i, kc⟩, F, hv, b⟩
theorem te_mk {f : Addr} {oc : Value} {od an : Option Addr} {osl : Array (Option Value)} {kV doc pm cdv ct : Value} {h : Heap} (X : K.In h) (G : h.Ns mainGlobals mg) (g : PySem.W.nsIn K mainGlobals x = some (some (.ref C))) (ox : OexC K C) (a : PySem.W.findIn K (.ref C) "__init__" = some (some (.ref f))) (i : PySem.W.typeIn K (.ref f) = some (.type "function"))
    (l : K.lookup f = some ⟨oc, od, .func (PySem.W.fnOf "__init__" qual (defArgs st) (defBody st) (defScope st) .none kV doc pm an cdv ct), osl⟩) (c : PySem.W.codeIn K cdv qual = true) (kk : PySem.W.keepIn K (.ref f) = true)
    (hb : ∀ (kV doc pm : Value) (an : Option Addr) (cdv ct : Value) (us : List Value), us.length = ps.length → bindArgs (PySem.W.fnOf "__init__" qual (defArgs st) (defBody st) (defScope st) .none kV doc pm an cdv ct) ⟨us, []⟩ = pure (ps.zip us)) : Te K mg C x qual st ps :=
  ⟨⟨f, _, fun_mk l c kk, a, i, (fun_mk l c kk).binds hb⟩, PySem.W.mg_of X G g, ox⟩
end
section
variable {X : Cx} {C : Addr} {x qual : Str} {st : Stmt} {ps : List Str} {sp : Sp} {k : Nat} {p pos : Pos} {e : Expr} {es : List Expr} {ta : TA}
theorem pmk_de (T : Te X.K X.mg C x qual st ps) (D : De X.prog X.w X.K X.mg X.base k C ps sp) (hr : Room (k + 1) X.A) (hg : Gl X x) (ha : PA X (e :: es) ta)
    (hdb : (x == ("__debug__" : Str)) = false := by decide) (he : starEach (e :: es) X.env = (false, eval e X.env) :: starEach es X.env := by rfl) (hpl : (backTo pos (starEach es X.env)).any (·.1) = false := by rfl) :
    PMk X (.Call (.Name x p) (e :: es) [] pos) (tMkO C sp [] ta) := by
  obtain ⟨f, fd, hi, ht, b, G⟩ := D.ex
  refine pmk_oex T.ox hi ht G hr b .nil (fun pins σ H s e s' _ h => ?_) hg T.g ha hdb he hpl
  obtain ⟨_, _, _, _, _, _, _, _, _, _, _, _, z⟩ := h
  exact z.elim
end
/-- __init__(self, f): self.f = f -/
def spX1 (K : PySem.W.Frag) (C : Addr) (f : Str) : Sp := fun vs H Q _ => ∃ a v, vs = [.ref a, v] ∧ OexC K C ∧ PySem.W.findIn K (.ref C) f = some none ∧ H a = some (exo a C none) ∧ ∀ dx, H dx = none → dx ≠ a → Q .non (upd (upd H dx (exd dx [(f, v)])) a (exo a C (some dx)))
theorem spX1_len {K : PySem.W.Frag} {C : Addr} {f : Str} : ∀ vs H Q E, spX1 K C f vs H Q E → vs.length = 2 := by
  rintro vs H Q E ⟨a, v, rfl, _⟩; rfl
/-- __init__(self, f, g): self.f = f; self.g = g -/
def spX2 (K : PySem.W.Frag) (C : Addr) (f g : Str) : Sp := fun vs H Q _ => ∃ a v u, vs = [.ref a, v, u] ∧ OexC K C ∧ PySem.W.findIn K (.ref C) f = some none ∧ PySem.W.findIn K (.ref C) g = some none ∧ H a = some (exo a C none) ∧
  ∀ dx, H dx = none → dx ≠ a → Q .non (upd (upd (upd H dx (exd dx [(f, v)])) a (exo a C (some dx))) dx (exd dx [(g, u), (f, v)]))
theorem spX2_len {K : PySem.W.Frag} {C : Addr} {f g : Str} : ∀ vs H Q E, spX2 K C f g vs H Q E → vs.length = 3 := by
  rintro vs H Q E ⟨a, v, u, rfl, _⟩; rfl
section
variable {Z : Bs} {F H F' H' : Hp} {σ σ' : L2.St} {Γ Γ' : Gm} {Ω Ω' Ωr : Om} {K : PySem.W.Frag} {te ta tb tl : TE} {tt : TT} {R Rx Ry : As} {Rs Ss : List As} {n : L2.St → Hp → Prop} {r : VK} {bk ct : L2.St → Hp → Prop} {p C dx : Addr} {fs : List (Str × As)} {f g m : Str} {i j : Nat}
theorem x1_body {C : Addr} {f : Str} {vs : List V} {Q : VK} {E : XK} {D : Ends} (h : spX1 K C f vs H Q E) (hD : ∀ σ H', Q .non H' → D.nx σ H') : tOst K f (tVar 0) (tVar 1) D (L2.start ["self", f] vs) H := by
  obtain ⟨a, v, rfl, ox, hn, ha, hq⟩ := h
  exact ⟨v, rfl, .ref a, rfl, a, C, rfl, ox, hn, .inl ⟨ha, fun dx h1 h2 => hD _ _ (hq dx h1 h2)⟩⟩
theorem x2_body {C : Addr} {f g : Str} {vs : List V} {Q : VK} {E : XK} {D : Ends} (h : spX2 K C f g vs H Q E) (hD : ∀ σ H', Q .non H' → D.nx σ H') : tSeq (tOst K f (tVar 0) (tVar 1)) (tOst K g (tVar 0) (tVar 2)) D (L2.start ["self", f, g] vs) H := by
  obtain ⟨a, v, u, rfl, ox, hn, hn2, ha, hq⟩ := h
  refine ⟨v, rfl, .ref a, rfl, a, C, rfl, ox, hn, .inl ⟨ha, fun dx h1 h2 => ?_⟩⟩
  refine ⟨u, rfl, .ref a, rfl, a, C, rfl, ox, hn2, .inr ⟨dx, _, upd_same, ?_, (by show 1 ≤ 900; decide), hD _ _ (hq dx h1 h2)⟩⟩
  rw [upd_ne h2]; exact upd_same
theorem del_upd {H : Hp} {a d : Addr} {o1 o2 o3 : HO} {fs : List (Str × V)} (ha : H a = none) (hd : d ≠ a) : upd (del (upd (upd (upd H a o1) d o2) a o3) a) d (.xd fs) = upd H d (.xd fs) := by
  funext b
  by_cases e : b = d
  · subst e; rw [upd_same, upd_same]
  · rw [upd_ne e, upd_ne e]
    by_cases e2 : b = a
    · subst e2; rw [del_same, ha]
    · rw [del_ne e2, upd_ne e2, upd_ne e, upd_ne e2]
theorem del_upd2 {H : Hp} {a d : Addr} {o1 o2 o3 o4 : HO} {fs : List (Str × V)} (ha : H a = none) (hd : d ≠ a) : upd (del (upd (upd (upd (upd H a o1) d o2) a o3) d o4) a) d (.xd fs) = upd H d (.xd fs) := by
  funext b
  by_cases e : b = d
  · subst e; rw [upd_same, upd_same]
  · rw [upd_ne e, upd_ne e]
    by_cases e2 : b = a
    · subst e2; rw [del_same, ha]
    · rw [del_ne e2, upd_ne e, upd_ne e2, upd_ne e, upd_ne e2]
/-- X(e), made -/
theorem mk_x1 {ta : TA} {Q : XK} (c : Ctx Z F H σ Γ Ω) (ox : OexC K C) (hn : PySem.W.findIn K (.ref C) f = some none) (e : EvA Γ Ω ta [R]) (k : ∀ d F' H', Ctx Z F' H' σ Γ ((d, oXd [(f, R)]) :: Ω) → Same F F' → Z.H d = none → Q (.ref C) (some d) H') : tMkO C (spX1 K C f) [] ta σ H Q :=
  e Z F H σ c _ fun vs F1 H1 c1 s1 rs => by
    obtain ⟨v, rfl, rv⟩ := rs.one
    refine ⟨by show 1 ≤ 1000; decide, fun a ha => ⟨a, v, rfl, ox, hn, upd_same, fun d hd hne => ⟨rfl, d, [(f, v)], upd_same, by rw [upd_ne hne]; exact upd_same, ?_, ?_⟩⟩⟩
    · rw [upd_ne hne] at hd; exact hd
    · rw [upd_ne hne] at hd
      rw [del_upd ha hne]
      exact k d F1 _ (c1.grow (A := oXd [(f, R)]) hd ⟨_, rfl, rfl, rv, trivial⟩) s1.fe (c1.ext.dm _ hd)
/-- X(e, e'), made -/
theorem mk_x2 {ta : TA} {R2 : As} {Q : XK} (c : Ctx Z F H σ Γ Ω) (ox : OexC K C) (hn : PySem.W.findIn K (.ref C) f = some none) (hn2 : PySem.W.findIn K (.ref C) g = some none) (e : EvA Γ Ω ta [R, R2]) (k : ∀ d F' H', Ctx Z F' H' σ Γ ((d, oXd [(g, R2), (f, R)]) :: Ω) → Same F F' → Z.H d = none → Q (.ref C) (some d) H') : tMkO C (spX2 K C f g) [] ta σ H Q :=
  e Z F H σ c _ fun vs F1 H1 c1 s1 rs => by
    obtain ⟨v, u, rfl, rv, ru⟩ := rs.two
    refine ⟨by show 2 ≤ 1000; decide, fun a ha => ⟨a, v, u, rfl, ox, hn, hn2, upd_same, fun d hd hne => ⟨rfl, d, [(g, u), (f, v)], by rw [upd_ne (Ne.symm hne)]; exact upd_same, upd_same, ?_, ?_⟩⟩⟩
    · rw [upd_ne hne] at hd; exact hd
    · rw [upd_ne hne] at hd
      rw [del_upd2 ha hne]
      exact k d F1 _ (c1.grow (A := oXd [(g, R2), (f, R)]) hd ⟨_, rfl, rfl, ru, rfl, rv, trivial⟩) s1.fe (c1.ext.dm _ hd)
/-! ### readings of calls that may raise -/
theorem cl_E {α : Type} {args : α → List As} {pre good : α → Prop} {res : α → As} {W : L2.St → XK} {ta : TA} {Q : VK} (a : α) (c : Ctx Z F H σ Γ Ω) (h : EvA Γ Ω ta (args a)) (hp : pre a)
    (k1 : good a → ∀ v F' H', Ctx Z F' H' σ Γ Ω → Same F F' → (res a).p F' v → Q v H') (k2 : ¬ good a → ∀ F' H', Ctx Z F' H' σ Γ Ω → Same F F' → W σ (.ref C) none H') : tCallS (CtE args pre res good C) W ta σ H Q :=
  h Z F H σ c _ fun vs F1 H1 c1 s1 rs => ⟨a, F1, c1.sub, rs, hp, fun g v F2 H2 e2 s2 rv => k1 g v F2 H2 (c1.step e2 s2) (s1.fe.trans e2.fe) rv, fun g F2 H2 e2 s2 => k2 g F2 H2 (c1.step e2 s2) (s1.fe.trans e2.fe)⟩
theorem cl_X {α : Type} {args : α → List As} {pre good : α → Prop} {res : α → As} {xf : α → List (Str × As)} {W : L2.St → XK} {ta : TA} {Q : VK} (a : α) (c : Ctx Z F H σ Γ Ω) (h : EvA Γ Ω ta (args a)) (hp : pre a)
    (k1 : good a → ∀ v F' H', Ctx Z F' H' σ Γ Ω → Same F F' → (res a).p F' v → Q v H') (k2 : ¬ good a → ∀ d F' H', Ctx Z F' H' σ Γ ((d, oXd (xf a)) :: Ω) → Same F F' → W σ (.ref C) (some d) H') : tCallS (CtX args pre good res C xf) W ta σ H Q :=
  h Z F H σ c _ fun vs F1 H1 c1 s1 rs => ⟨a, F1, c1.sub, rs, hp, fun g v F2 H2 e2 s2 rv => k1 g v F2 H2 (c1.step e2 s2) (s1.fe.trans e2.fe) rv, fun g d F2 H2 e2 s2 o hd => k2 g d F2 H2 (c1.add e2 s2 o hd) (s1.fe.trans e2.fe)⟩
theorem ev_callX {α : Type} {args : α → List As} {pre good : α → Prop} {res : α → As} {xf : α → List (Str × As)} {E : XK} {ta : TA} (a : α) (h : EvA Γ Ω ta (args a)) (hp : pre a) (hg : good a) : Ev Γ Ω (tCall (CtX args pre good res C xf) [] E ta) (res a) := fun Z F H σ c Q q =>
  h Z F H σ c _ fun vs F1 H1 c1 s1 rs => ⟨a, F1, c1.sub, by rw [List.append_nil]; exact rs, hp, fun _ v F2 H2 e2 s2 r => q v F2 H2 (c1.step e2 s2) (s1.trans e2) r, fun n => absurd hg n⟩
theorem Ctx.plus {A : OA} (c : Ctx Z F H σ Γ Ω) (o : Own F H [(p, A)]) (hz : Z.H p = none) (hd : ∀ x, x ∈ Ω → x.1 ≠ p) : Ctx Z F H σ Γ ((p, A) :: Ω) := by
  refine ⟨c.sat, c.sub, fun x hx => ?_, ?_, fun x hx => ?_, c.ext, c.pin⟩
  · rcases List.mem_cons.mp hx with z | hx
    · subst z; exact o _ List.mem_cons_self
    · exact c.own x hx
  · rw [List.map_cons, List.nodup_cons]
    refine ⟨fun hx => ?_, c.nd⟩
    obtain ⟨x, hx, z⟩ := List.mem_map.mp hx
    exact hd x hx z
  · rcases List.mem_cons.mp hx with z | hx
    · subst z; exact .inr (.inl hz)
    · exact c.loc x hx
theorem cl_MX {α : Type} {args : α → List As} {Oi Oo : α → Om} {pre good : α → Prop} {res : α → As} {C' : Addr} {xf : α → List (Str × As)} {W : L2.St → XK} {t : TA} {Q : VK} (a : α) (c : Ctx Z F H σ Γ Ω) (ho : Ev Γ Ω ta (Rf p)) (hm : Ω[j]? = some (p, oI C dx fs)) (hn : fs.lookup m = none) (h : EvA Γ Ω t Rs) (ha : args a = Rf p :: Rs) (hs : Ω.Perm (Oi a ++ Ωr)) (hp : pre a)
    (hoo : (Oo a).map (·.1) = (Oi a).map (·.1)) (k1 : good a → ∀ v F' H', Ctx Z F' H' σ Γ (Oo a ++ Ωr) → Same F F' → (res a).p F' v → Q v H')
    (k2 : ¬ good a → ∀ d F' H', Ctx Z F' H' σ Γ ((d, oXd (xf a)) :: (Oi a ++ Ωr)) → Same F F' → W σ (.ref C') (some d) H') (hro : Z.ro = [] := by rfl) : tMethX C m (CtMX args Oi pre good res Oo C' xf) W ta t σ H Q :=
  ho Z F H σ c _ fun x F1 H1 c1 s1 rx => by
    cases rx
    obtain ⟨_, o, h2, vs, eo, hf⟩ := c1.own _ (List.mem_of_getElem? hm)
    subst eo
    refine ⟨p, dx, vs, rfl, h2, hf.none hn, h Z F1 H1 σ c1 _ fun ws F2 H2 c2 s2 rs => ?_⟩
    have cp := c2.perm hs
    refine ⟨a, F2, c2.sub, ?_, cp.own.sub fun x hx => List.mem_append_left _ hx, ?_, hp, fun g v F3 H3 e3 s3 rv ow => k1 g v F3 H3 (cp.changed e3 s3 ow hoo hro) ((s1.trans s2).fe.trans e3.fe) rv, fun g d F3 H3 e3 s3 ow hd => ?_⟩
    · rw [ha]
      exact ⟨rfl, rs⟩
    · have nd := cp.nd
      rw [List.map_append, List.nodup_append] at nd
      exact nd.1
    · have c3 := cp.changed e3 s3 (ow.sub fun x hx => List.mem_cons_of_mem _ hx) rfl hro
      refine k2 g d F3 H3 (c3.plus (fun x hx => ow x (by rw [List.mem_singleton.mp hx]; exact List.mem_cons_self)) (cp.ext.dm _ hd) fun x hx z => ?_) ((s1.trans s2).fe.trans e3.fe)
      obtain ⟨_, o', h3, _⟩ := cp.own x hx
      rw [z, hd] at h3
      cases h3
/-- a constructor that may raise, with the value dropped or kept -/
theorem cl_ME {α : Type} {args : α → Addr → List As} {Oi Oo : α × Addr × Addr → Om} {pre good : α × Addr × Addr → Prop} {res : α × Addr × Addr → As} {C' : Addr} {W : L2.St → XK} {t : TA} {Q : VK} {Ds : List As} {dvs : List V} (a : α) (c : Ctx Z F H σ Γ Ω) (h : EvA Γ Ω t Rs) (hd : ∀ F, All F Ds dvs) (ha : ∀ x, args a x = Rf x :: (Rs ++ Ds)) (hoi : ∀ x dx, Oi (a, x, dx) = [(x, oI C dx [])]) (hp : ∀ x dx, pre (a, x, dx)) (hr : ∀ x dx F v, (res (a, x, dx)).p F v → v = .non)
    (hoo : ∀ x dx, (Oo (a, x, dx)).map (·.1) = [x]) (k1 : ∀ x dx, good (a, x, dx) → ∀ F' H', Ctx Z F' H' σ Γ (Oo (a, x, dx) ++ Ω) → Same F F' → Q (.ref x) H') (k2 : ∀ x dx, ¬ good (a, x, dx) → ∀ F' H', Ctx Z F' H' σ Γ Ω → Same F F' → W σ (.ref C') none H') (hro : Z.ro = [] := by rfl) : tMakeX C (CtME (fun b : α × Addr × Addr => args b.1 b.2.1) Oi pre good res Oo C') dvs W t σ H Q :=
  h Z F H σ c _ fun vs F1 H1 c1 s1 rs => by
    intro x dx hx hd' hne
    have c2 := (c1.grow (p := dx) (o := .own x) (A := ⟨fun _ _ => True, fun _ h => h⟩) hd' trivial).tail
    have hx2 : upd H1 dx (.own x) x = none := by rw [upd_ne (Ne.symm hne)]; exact hx
    have c3 := c2.grow (p := x) (o := .ins C dx []) (A := oI C dx []) hx2 ⟨[], rfl, trivial⟩
    have c3' : Ctx Z F1 (upd (upd H1 dx (.own x)) x (.ins C dx [])) σ Γ (Oi (a, x, dx) ++ Ω) := by rw [hoi]; exact c3
    refine ⟨(a, x, dx), F1, c3.sub, ?_, c3'.own.sub fun y hy => List.mem_append_left _ hy, by rw [hoi]; simp, hp x dx, fun g v F3 H3 e3 s3 rv ow => ⟨hr x dx _ _ rv, ?_⟩, fun g F3 H3 e3 s3 ow => ?_⟩
    · dsimp only
      rw [ha]
      exact ⟨rfl, rs.app (hd F1)⟩
    · exact k1 x dx g F3 H3 (c3'.changed e3 s3 ow (by rw [hoo, hoi]; rfl) hro) (s1.fe.trans e3.fe)
    · have c4 := c3'.changed e3 s3 ow rfl hro
      rw [hoi] at c4
      exact k2 x dx g F3 H3 c4.tail (s1.fe.trans e3.fe)
/-- the same constructor where it does not raise, outside of any try -/
theorem st_makeE {α : Type} {args : α → Addr → List As} {Oi Oo : α × Addr × Addr → Om} {pre good : α × Addr × Addr → Prop} {res : α × Addr × Addr → As} {C' : Addr} {E : XK} {t : TA} {Ds : List As} {dvs : List V} (a : α) (c : Ctx Z F H σ Γ Ω) (h : EvA Γ Ω t Rs) (hd : ∀ F, All F Ds dvs) (ha : ∀ x, args a x = Rf x :: (Rs ++ Ds)) (hoi : ∀ x dx, Oi (a, x, dx) = [(x, oI C dx [])]) (hp : ∀ x dx, pre (a, x, dx)) (hg : ∀ x dx, good (a, x, dx)) (hr : ∀ x dx F v, (res (a, x, dx)).p F v → v = .non)
    (hoo : ∀ x dx, (Oo (a, x, dx)).map (·.1) = [x]) (k : ∀ x dx F' H' σ', Ctx Z F' H' σ' (Γ.set i (some (Rf x))) (Oo (a, x, dx) ++ Ω) → n σ' H') (hro : Z.ro = [] := by rfl) : tAsg (tMake C (CtME (fun b : α × Addr × Addr => args b.1 b.2.1) Oi pre good res Oo C') dvs E t) (gName i) ⟨n, r, bk, ct⟩ σ H :=
  h Z F H σ c _ fun vs F1 H1 c1 s1 rs => by
    intro x dx hx hd' hne
    have c2 := (c1.grow (p := dx) (o := .own x) (A := ⟨fun _ _ => True, fun _ h => h⟩) hd' trivial).tail
    have hx2 : upd H1 dx (.own x) x = none := by rw [upd_ne (Ne.symm hne)]; exact hx
    have c3 := c2.grow (p := x) (o := .ins C dx []) (A := oI C dx []) hx2 ⟨[], rfl, trivial⟩
    have c3' : Ctx Z F1 (upd (upd H1 dx (.own x)) x (.ins C dx [])) σ Γ (Oi (a, x, dx) ++ Ω) := by rw [hoi]; exact c3
    refine ⟨(a, x, dx), F1, c3.sub, ?_, c3'.own.sub fun y hy => List.mem_append_left _ hy, by rw [hoi]; simp, hp x dx, fun g v F3 H3 e3 s3 rv ow => ⟨hr x dx _ _ rv, ?_⟩, fun g => absurd (hg x dx) g⟩
    · dsimp only
      rw [ha]
      exact ⟨rfl, rs.app (hd F1)⟩
    · exact k x dx F3 H3 _ ((c3'.changed e3 s3 ow (by rw [hoo, hoi]; rfl) hro).set i rfl)
/-! ### suites -/
theorem w_only {cl cls : Value} {ts : Addr → Value → Option Addr → TS} {Wout : WX} {D : Ends} {d : Option Addr} (te : PySem.W.exmOne K cls cl = some true) (k : ∀ a0, H a0 = none → ts a0 cls d D σ H) : wOnly K cl ts Wout D cls d σ H := ⟨true, te, fun _ => k, fun z => Bool.noConfusion z⟩
theorem w_as {cl cls : Value} {ts : Addr → Value → Option Addr → TS} {Wout : WX} {D : Ends} {d : Option Addr} (te : PySem.W.exmOne K cls cl = some true)
    (k : ∀ a0, H a0 = none → ts a0 cls d { nx := fun σ' H' => D.nx (σ'.set i none) H', rt := D.rt, bk := fun σ' H' => D.bk (σ'.set i none) H', ct := fun σ' H' => D.ct (σ'.set i none) H' } (σ.set i (some (.ref a0))) H) : wAs K cl i ts Wout D cls d σ H := ⟨true, te, fun _ => k, fun z => Bool.noConfusion z⟩
theorem Ctx.clr (c : Ctx Z F H σ Γ Ω) (i : Nat) : Ctx Z F H (σ.set i none) (Γ.set i none) Ω := c.slots (c.sat.unset i)
/-- e.f, e the error that the suite holds -/
theorem ev_xf {a d : Addr} (ha : Ev Γ Ω ta (Rf a)) (hm : Ω[j]? = some (d, oXd fs)) (hl : fs.lookup f = some R) : Ev Γ Ω (tXf a (.ref C) (some d) C f ta) R := fun Z F H σ c Q q =>
  ha Z F H σ c _ fun x F1 H1 c1 s1 rx => by
    cases rx
    obtain ⟨_, o, h2, vs, e, hv⟩ := c1.own _ (List.mem_of_getElem? hm)
    subst e
    obtain ⟨v, e1, rv⟩ := hv.get hl
    exact ⟨rfl, rfl, d, vs, v, rfl, h2, e1, q v F1 H1 c1 s1 rv⟩
end
/-! ### isinstance of the error that a suite holds -/
end Y
namespace PySem.W
open PySem PySem.Spec PySem.Calls PyProof.Rows
section
variable {prog : Program} {w : World} {A : Around} {E : Value → Shared → Prop} {s : Shared} {K : Frag} {x D : Addr} {ox : Obj}
theorem findObj_dataD {C : Addr} {od : Option Obj} {name : Str} {a g : Value} (hc : (clsIn K C).isSome = true) (ha : findIn K (.ref C) name = some (some a)) (hg : specialIn K a "__get__" = some (some g)) (ht : takesIn K a = some true) : findObj K C od name = some (.bind g a) := by
  obtain ⟨cd, hc⟩ := Option.isSome_iff_exists.mp hc
  unfold findObj
  rw [hc, Option.bind_some, ha, Option.bind_some]
  simp [hg, ht]
theorem kin_classD {od : Option Obj} {Q : Option Value → Shared → Prop} (hga : findIn K (.ref D) "__getattribute__" = some (some (.builtin "BaseException.__getattribute__"))) (hgt : findIn K (.ref D) "__getattr__" = some none) (hsub : subIn K (.ref D) (.type "BaseException") = some true)
    (hdct : hasDictIn K D = true) (ha : findIn K (.ref D) "__class__" = some (some (.builtin "object.__class__")))
    (hn : specialIn K (.builtin "object.__class__") "__get__" = some (some (.builtin "getset_descriptor.__get__"))) (htk : takesIn K (.builtin "object.__class__") = some true) (hm : mroIn K D (.type "object") = some true)
    (X : K.In s.heap) (I : InstAt s.heap x ox D od) (h : Q (some (.ref D)) { s with toks := s.toks + 1 }) : wpAny (model prog w) A (getAttr? (.ref x) "__class__") Q E s := by
  have hf : findObj K D od "__class__" = some (.bind (.builtin "getset_descriptor.__get__") (.builtin "object.__class__")) := findObj_dataD (by obtain ⟨cd, hc, _⟩ := any_some hdct; rw [hc]; rfl) ha hn htk
  obtain ⟨hp, g, d, t, os⟩ := s
  have L0 := I.type (M := model prog w)
  have L1 := looks_findIn (M := model prog w) X hga
  have L2 := looks_findIn (M := model prog w) X hgt
  have L3 := looks_find (M := model prog w) X I hf
  have sub : Looks (model prog w) hp (isInstance (.ref x) (.type "BaseException")) true := L0.andThen (looks_subIn X hsub)
  have hx0 : (false && onTheHeap (Value.builtin "BaseException.__getattribute__")) = false := rfl
  have hx2 : (Value.builtin "BaseException.__getattribute__" == Value.builtin "object.__getattribute__") = false := by decide +kernel
  have hx1 : (onTheHeap (Value.ref D) && Value.builtin "BaseException.__getattribute__" == Value.builtin "object.__getattribute__") = false := by rw [hx2]; rfl
  unfold getAttr? getAttrBy? getAttrBy
  refine wpAny_bind (wpAny_mkText (wpAny_bind (wpAny_attempt (wpAny_holding (wpAny_bind (L0.at (wpAny_bind (L1.at ?_))))))))
  show wpAny _ _ (if (onTheHeap (Value.ref D) && Value.builtin "BaseException.__getattribute__" == Value.builtin "object.__getattribute__") = true then _ else _) _ _ _
  rw [hx1, if_neg Bool.false_ne_true]
  unfold getAttrByItsOwn hookBefore
  refine wpAny_bind ?_
  rw [if_pos (show onTheHeap (Value.ref D) = true from rfl)]
  refine L2.at ?_
  refine wpAny_bind (wpAny_attempt (wpAny_holding ?_))
  unfold callGetattribute
  rw [hx0, if_neg Bool.false_ne_true]
  unfold boundAndCalled
  rw [PySem.F.excAttr_ValueError.ga.bind (.ref x)]
  refine wpAny_bind (wpAny_pure ?_)
  show wpAny _ _ (call (.builtin "BaseException.__getattribute__") [.ref x, .str "__class__" t]) _ _ _
  refine wpAny_call (codeAny_call_builtin PySem.F.excAttr_ValueError.ga.plain PySem.F.entry_bexc_ga ?_)
  refine @check_slot (model prog w) _ _ ⟨hp, g, d, t + 1, os⟩ "BaseException.__getattribute__" "BaseException" "__getattribute__" (.ref x) [.str "__class__" t] [] _ (by decide +kernel) (by decide +kernel) sub (PySem.F.args_bexc_ga (.ref x) (.str "__class__" t)) ?_
  unfold Builtin.«object.__getattribute__»
  refine wpAny_bind (wpAny_of_eq (a := ((Value.ref x : Value), [Value.str "__class__" t])) (by first | rfl | (simp only [slotArgs]; rfl)) ?_)
  refine wpAny_bind (wpAny_pure (wpAny_bind (L0.at (wpAny_bind (L3.at ?_)))))
  show wpAny _ _ (holding [Value.builtin "object.__class__"] (call (.builtin "getset_descriptor.__get__") [.builtin "object.__class__", .ref x, .ref D]) >>= ret) _ _ _
  refine wpAny_bind (wpAny_holding (wpAny_call (class_get (s := ⟨hp, g, d, t + 1, os⟩) (ox := ox) (od := od) X I hm ?_)))
  refine wpAny_pure ?_
  show wpAny _ _ (handedOut (.ref D)) _ _ _
  rw [handedOut_of (v := .ref D) rfl]
  first
    | exact wpAny_pure (wpAny_pure h)
    | exact wpAny_pure h
    | exact wpAny_pure (wpAny_bind (wpAny_pure (wpAny_pure h)))
theorem kitx_excD {od : Option Obj} (hga : findIn K (.ref D) "__getattribute__" = some (some (.builtin "BaseException.__getattribute__"))) (hgt : findIn K (.ref D) "__getattr__" = some none) (hsub : subIn K (.ref D) (.type "BaseException") = some true) (hdct : hasDictIn K D = true) (ha : findIn K (.ref D) "__class__" = some (some (.builtin "object.__class__")))
    (hn : specialIn K (.builtin "object.__class__") "__get__" = some (some (.builtin "getset_descriptor.__get__"))) (htk : takesIn K (.builtin "object.__class__") = some true) (hm : mroIn K D (.type "object") = some true) :
    KitX K (.ref x) (.ref D) (fun h => InstAt h x ox D od) where
  ty := fun _ _ _ I => I.type
  it := fun _ _ X _ => by
    obtain ⟨cdD, hcD, _⟩ := any_some hdct
    unfold clsIn at hcD
    split at hcD
    · rename_i c' d' cd' sl' ho
      intro A' Q' E' s' k q
      unfold isType loadHead
      exact wpAny_bind (wpAny_loadPart (k _ _ (X _ _ ho)) (wpAny_pure q))
    · cases hcD
  ne := fun h tp dd its n sl X htp => by
    obtain ⟨cdD, hcD, _⟩ := any_some hdct
    refine Bool.eq_false_iff.mpr fun q => ?_
    have e : D = tp := Value.ref.inj (beq_iff_eq.mp q)
    subst e
    unfold clsIn at hcD
    split at hcD
    · rename_i c' d' cd' sl' ho
      have z := (X _ _ ho).symm.trans htp
      cases z
    · cases hcD
  ca := fun X I k => kin_classD hga hgt hsub hdct ha hn htk hm X I k
end
end PySem.W
namespace Y
open PySem L2 PySem.Spec
open PyProof.Rows (envOfC)
/-- what is known of the error: its class D; no dict, or a tracked one -/
def Kn (D : Addr) (cls : Value) (d : Option Addr) (H : Hp) : Prop := cls = .ref D ∧ (d = none ∨ ∃ dd fs, d = some dd ∧ H dd = some (.xd fs))
def rIsE1 (K : PySem.W.Frag) (D a : Addr) (cls : Value) (d : Option Addr) : List V → Hp → VK → Prop := fun xs H Q => ∃ (c : V) (cv : Value) (b : Bool), xs = [.ref a, c] ∧ Kn D cls d H ∧ (∀ u, RelV c u → u = cv) ∧ PySem.W.kitOne K (.ref D) cv = some b ∧ Q (.bl b) H
def rIsET (K : PySem.W.Frag) (D a : Addr) (cls : Value) (d : Option Addr) : List V → Hp → VK → Prop := fun xs H Q => ∃ (tp : Addr) (cs : List V) (ws : List Value) (b : Bool), xs = [.ref a, .ref tp] ∧ Kn D cls d H ∧ H tp = some (.tup cs) ∧ Paired ClsV cs ws ∧ PySem.W.kitAny K (.ref D) ws = some b ∧ Q (.bl b) H
section
variable {X : Cx} {a D : Addr} {cls : Value} {d : Option Addr} {oe : Obj} {pn : List (Addr × Obj)}
theorem kn_inst {pins : List (Addr × Obj)} {s : Shared} {σ : L2.St} {H : Hp} (hz : Zc cls d oe) (hf : ∃ vs, oe.data = .fields vs) (I : L2.Inv (X.suite a ((a, oe) :: pn)) pins σ H s) (h : Kn D cls d H) : ∃ od, PySem.W.InstAt s.heap a oe D od := by
  obtain ⟨ha, _⟩ := I.pin (a, oe) (List.mem_append_left _ List.mem_cons_self)
  obtain ⟨vs, hd⟩ := hf
  obtain ⟨ec, hh⟩ := h
  subst ec
  rcases hh with e | ⟨dd, fs, e, hx⟩
  · subst e
    exact ⟨none, ha, hz.1, by unfold PySem.W.notCls; rw [hd] <;> rfl, by rw [hz.2]; trivial⟩
  · subst e
    have hx : ObjOk X.prog X.w H s.heap dd (.xd fs) := I.hok dd _ hx
    obtain ⟨mA, hns, hr⟩ := hx
    obtain ⟨od, ho, hl⟩ := lookIn_ns hns
    exact ⟨some od, ha, hz.1, by unfold PySem.W.notCls; rw [hd] <;> rfl, by rw [hz.2]; exact ho⟩
theorem call_isE1 (C : ExcC X.K D) (hz : Zc cls d oe) (hf : ∃ vs, oe.data = .fields vs) : CallR (X.suite a ((a, oe) :: pn)) (.builtin "isinstance") (rIsE1 X.K D a cls d) := by
  intro pins s σ H xs us Q I r h
  obtain ⟨c, cv, b, rfl, kn, hcv, e, q⟩ := h
  obtain ⟨u1, u2, rfl, r1, r2⟩ := vals2 r
  cases (show u1 = Value.ref a from r1)
  have ec := hcv _ r2
  subst ec
  obtain ⟨od, J⟩ := kn_inst hz hf I kn
  exact PySem.W.kia_one (PySem.W.kitx_excD C.hg C.hk C.hs C.hd C.ha C.hn C.ht C.hm) I.kIn J e (fun z => nomatch z) fun tk => ⟨.bl b, H, I.kept (t' := tk) fun _ _ z => z, rfl, q⟩
theorem call_isET (C : ExcC X.K D) (hz : Zc cls d oe) (hf : ∃ vs, oe.data = .fields vs) : CallR (X.suite a ((a, oe) :: pn)) (.builtin "isinstance") (rIsET X.K D a cls d) := by
  intro pins s σ H xs us Q I r h
  obtain ⟨tp, cs, ws, b, rfl, kn, hT, k, e, q⟩ := h
  obtain ⟨u1, u2, rfl, r1, r2⟩ := vals2 r
  cases (show u1 = Value.ref a from r1)
  cases (show u2 = Value.ref tp from r2)
  obtain ⟨od, J⟩ := kn_inst hz hf I kn
  obtain ⟨_, its, rv, o, h1, h2, n, h3⟩ := (show ObjOk X.prog X.w H s.heap tp (.tup cs) from I.hok tp _ hT)
  have e3 := ClsV.all k rv
  subst e3
  obtain ⟨oc, od', dt, sl⟩ := o
  simp only at h2 h3
  subst h2 h3
  exact PySem.W.kia_tup (PySem.W.kitx_excD C.hg C.hk C.hs C.hd C.ha C.hn C.ht C.hm) I.kIn J h1 e (fun z => nomatch z) fun tk => ⟨.bl b, H, I.kept (t' := tk) fun _ _ z => z, rfl, q⟩
end
section
variable {Γ : Gm} {Ω : Om} {K : PySem.W.Frag} {te : TE} {ta : TA} {a D dd : Addr} {b : Bool} {fs : List (Str × As)} {j : Nat}
theorem all_cst {F : Hp} : ∀ {cs vs : List V}, All F (cs.map Cst) vs → vs = cs
  | [], [], _ => rfl
  | c :: cs, v :: vs, h => by
    have e : v = c := h.1
    rw [e, all_cst h.2]
  | [], _ :: _, h => h.elim
  | _ :: _, [], h => h.elim
theorem ev_isE {c : V} {cv : Value} {tc : TE} (he : Ev Γ Ω te (Rf a)) (h2 : Ev Γ Ω tc (Cst c)) (hc : ClsV c cv) (hk : PySem.W.kitOne K (.ref D) cv = some b) : Ev Γ Ω (tCB (rIsE1 K D a (.ref D) none) (tCons te (tCons tc tNil))) (B b) := fun Z F H σ c Q q =>
  he Z F H σ c _ fun x F1 H1 c1 s1 rx => h2 Z F1 H1 σ c1 _ fun y F2 H2 c2 s2 ry => by
    cases rx; cases ry
    exact ⟨_, _, b, rfl, ⟨rfl, .inl rfl⟩, fun u r => hc.eq r, hk, q _ F2 H2 c2 (s1.trans s2) rfl⟩
theorem ev_isED {c : V} {cv : Value} {tc : TE} (he : Ev Γ Ω te (Rf a)) (h2 : Ev Γ Ω tc (Cst c)) (hm : Ω[j]? = some (dd, oXd fs)) (hc : ClsV c cv) (hk : PySem.W.kitOne K (.ref D) cv = some b) : Ev Γ Ω (tCB (rIsE1 K D a (.ref D) (some dd)) (tCons te (tCons tc tNil))) (B b) := fun Z F H σ c Q q =>
  he Z F H σ c _ fun x F1 H1 c1 s1 rx => h2 Z F1 H1 σ c1 _ fun y F2 H2 c2 s2 ry => by
    cases rx; cases ry
    obtain ⟨_, o, h2, vs, e, hv⟩ := c2.own _ (List.mem_of_getElem? hm)
    subst e
    exact ⟨_, _, b, rfl, ⟨rfl, .inr ⟨dd, vs, rfl, h2⟩⟩, fun u r => hc.eq r, hk, q _ F2 H2 c2 (s1.trans s2) rfl⟩
theorem ev_isET {cs : List V} {ws : List Value} (he : Ev Γ Ω te (Rf a)) (h2 : EvA Γ Ω ta (cs.map Cst)) (hc : Paired ClsV cs ws) (hk : PySem.W.kitAny K (.ref D) ws = some b) (hl : cs.length ≤ 1000 := by decide) : Ev Γ Ω (tCB (rIsET K D a (.ref D) none) (tCons te (tCons (tTup ta) tNil))) (B b) := fun Z F H σ c Q q =>
  he Z F H σ c _ fun x F1 H1 c1 s1 rx => h2 Z F1 H1 σ c1 _ fun vs F2 H2 c2 s2 ry => by
    cases rx
    have ev := all_cst ry
    subst ev
    refine ⟨Nat.le_of_lt (small1000 hl), fun p hp => ?_⟩
    obtain ⟨e, s⟩ := Ext.new (o := .tup vs) c2.sub hp
    exact ⟨p, vs, ws, b, rfl, ⟨rfl, .inl rfl⟩, upd_same, hc, hk, q _ _ _ (c2.step e s) (s1.trans (s2.trans e)) rfl⟩
theorem ev_isETD {cs : List V} {ws : List Value} (he : Ev Γ Ω te (Rf a)) (h2 : EvA Γ Ω ta (cs.map Cst)) (hm : Ω[j]? = some (dd, oXd fs)) (hc : Paired ClsV cs ws) (hk : PySem.W.kitAny K (.ref D) ws = some b) (hl : cs.length ≤ 1000 := by decide) : Ev Γ Ω (tCB (rIsET K D a (.ref D) (some dd)) (tCons te (tCons (tTup ta) tNil))) (B b) := fun Z F H σ c Q q =>
  he Z F H σ c _ fun x F1 H1 c1 s1 rx => h2 Z F1 H1 σ c1 _ fun vs F2 H2 c2 s2 ry => by
    cases rx
    have ev := all_cst ry
    subst ev
    refine ⟨Nat.le_of_lt (small1000 hl), fun p hp => ?_⟩
    obtain ⟨e, s⟩ := Ext.new (o := .tup vs) c2.sub hp
    have c3 := c2.step e s
    obtain ⟨_, o, h2, us, e', hv⟩ := c3.own _ (List.mem_of_getElem? hm)
    subst e'
    exact ⟨p, vs, ws, b, rfl, ⟨rfl, .inr ⟨dd, us, rfl, h2⟩⟩, upd_same, hc, hk, q _ _ _ c3 (s1.trans (s2.trans e)) rfl⟩
/-- a tuple of three that takes none, .. -/
theorem kit2 {t c1 c2 : Value} (h1 : PySem.W.kitOne K t c1 = some false) (h2 : PySem.W.kitOne K t c2 = some false) : PySem.W.kitAny K t [c1, c2] = some false := kitAny_cons h1 (fun _ => kitAny_cons h2 (fun _ => rfl) (fun z => nomatch z)) (fun z => nomatch z)
theorem kit3 {t c1 c2 c3 : Value} (h1 : PySem.W.kitOne K t c1 = some false) (h2 : PySem.W.kitOne K t c2 = some false) (h3 : PySem.W.kitOne K t c3 = some false) : PySem.W.kitAny K t [c1, c2, c3] = some false := kitAny_cons h1 (fun _ => kit2 h2 h3) (fun z => nomatch z)
end
end Y
namespace Y
open PySem L2
section
variable {Z : Bs} {F H F' H' : Hp} {σ σ' : L2.St} {Γ Γ' : Gm} {Ω Ω' Ωr : Om} {K : PySem.W.Frag} {te ta tb tl : TE} {n : L2.St → Hp → Prop} {r : VK} {bk ct : L2.St → Hp → Prop} {i : Nat}
theorem dropX (h : te σ H (fun _ H' => n σ H')) : tDrop te ⟨n, r, bk, ct⟩ σ H := h
theorem asgX (h : te σ H (fun v H' => n (σ.set i (some v)) H')) : tAsg te (gName i) ⟨n, r, bk, ct⟩ σ H := h
theorem retX (h : te σ H r) : tRet te ⟨n, r, bk, ct⟩ σ H := h
/-- f(e, ..), a def that changes what it is handed -/
theorem cl_M {α : Type} {args : α → List As} {Oi Oo : α → Om} {pre : α → Prop} {res : α → As} {t : TA} {Q : VK} {E : XK} (a : α) (c : Ctx Z F H σ Γ Ω) (h : EvA Γ Ω t (args a)) (hs : Ω.Perm (Oi a ++ Ωr)) (hp : pre a)
    (hoo : (Oo a).map (·.1) = (Oi a).map (·.1)) (k : ∀ v F' H', Ctx Z F' H' σ Γ (Oo a ++ Ωr) → Same F F' → (res a).p F' v → Q v H') (hro : Z.ro = [] := by rfl) : tCall (CtM args Oi pre res Oo) [] E t σ H Q :=
  h Z F H σ c _ fun vs F1 H1 c1 s1 rs => by
    have cp := c1.perm hs
    refine ⟨a, F1, c1.sub, by rw [List.append_nil]; exact rs, cp.own.sub fun x hx => List.mem_append_left _ hx, ?_, hp, fun v F3 H3 e3 s3 rv ow => k v F3 H3 (cp.changed e3 s3 ow hoo hro) (s1.fe.trans e3.fe) rv⟩
    have nd := cp.nd
    rw [List.map_append, List.nodup_append] at nd
    exact nd.1
end
end Y
namespace Y
open PySem L2
section
variable {Z : Bs} {F H F' H' : Hp} {σ σ' : L2.St} {Γ Γ' : Gm} {Ω Ω' Ωr : Om} {K : PySem.W.Frag} {te ta tb tl : TE} {n : L2.St → Hp → Prop} {r : VK} {bk ct : L2.St → Hp → Prop}
theorem src_rp {ta : TA} {i j s : Int} {n : Nat} (e : EvA Γ Ω ta [I i, I j, I s]) (h : RgC i j s n) : Src Γ Ω (iRng3 ta) (List.range n) (fun k => I (i + (k : Int) * s)) := fun Z F H σ c R q => e Z F H σ c _ fun vs F1 H1 c1 s1 rv => by
  match vs, rv.length with
  | [v, w, u], _ =>
    obtain ⟨ev, ew, eu, _⟩ := rv
    cases ev; cases ew; cases eu
    refine ⟨i, j, s, n, rfl, h, q _ F1 H1 c1 s1 fun Z' F2 H2 σ2 Γ2 Ω2 c2 s2 => ?_⟩
    refine ⟨by rw [List.length_range]; exact Nat.le_refl _, fun k x hx => ?_⟩
    obtain ⟨hi, ei⟩ := List.getElem?_eq_some_iff.mp hx
    rw [List.length_range] at hi
    rw [List.getElem_range] at ei
    subst ei
    refine ⟨hi, fun v H3 hy => ?_⟩
    obtain ⟨e1, e2⟩ := hy
    subst e1 e2
    exact ⟨F2, Ext.refl _ _ _, c2.sub, rfl⟩
theorem rg3 : ∀ h : _root_.Fin 64, Builtin.Range.small 0 (h.val : Int) 3 = true ∧ Builtin.Range.rangeSize 0 (h.val : Int) 3 = (((h.val + 2) / 3 : Nat) : Int) := by decide +kernel
theorem gcd_turnA (x y : Int) : Int.gcd y (x % y) = Int.gcd x y := by
  rw [Int.emod_def, Int.gcd_comm x y]
  simp
theorem atI_three (a b c z : Int) : atI [I a, I b, I c] (z % 3) = some (I (if z % 3 = 0 then a else if z % 3 = 1 then b else c)) := by
  have h : z % 3 = 0 ∨ z % 3 = 1 ∨ z % 3 = 2 := by omega
  rcases h with h | h | h <;> rw [h] <;> rfl
theorem atI_four (a b c d z : Int) : atI [I a, I b, I c, I d] (z % 4) = some (I (if z % 4 = 0 then a else if z % 4 = 1 then b else if z % 4 = 2 then c else d)) := by
  have h : z % 4 = 0 ∨ z % 4 = 1 ∨ z % 4 = 2 ∨ z % 4 = 3 := by omega
  rcases h with h | h | h | h <;> rw [h] <;> rfl
end
end Y
namespace Y
open PySem L2
section
variable {Z : Bs} {F H F' H' : Hp} {σ σ' : L2.St} {Γ Γ' : Gm} {Ω Ω' Ωr : Om} {K : PySem.W.Frag} {te ta tb tl : TE} {n : L2.St → Hp → Prop} {r : VK} {bk ct : L2.St → Hp → Prop} {t1 t2 : TS}
/-- if not f(..): .., f a def that changes what it is handed and answers True -/
theorem st_ifNM {α : Type} {args : α → List As} {Oi Oo : α → Om} {pre : α → Prop} {res : α → As} {t : TA} {E : XK} (a : α) (c : Ctx Z F H σ Γ Ω) (h : EvA Γ Ω t (args a)) (hs : Ω.Perm (Oi a ++ Ωr)) (hp : pre a)
    (hoo : (Oo a).map (·.1) = (Oi a).map (·.1)) (hres : res a = B true) (k : ∀ F' H', Ctx Z F' H' σ Γ (Oo a ++ Ωr) → t2 ⟨n, r, bk, ct⟩ σ H') (hro : Z.ro = [] := by rfl) : tIfS (tNot (tB (tCall (CtM args Oi pre res Oo) [] E t))) t1 t2 ⟨n, r, bk, ct⟩ σ H :=
  cl_M a c h hs hp hoo (fun v F' H' c _ rv => ⟨true, (by rw [hres] at rv; exact rv), iteF (k F' H' c)⟩) hro
theorem ev_isNN (ha : Ev Γ Ω ta Nn) : Ev Γ Ω (tOp (fun x y H Q => y = .non ∧ Q (.bl (decide (x = .non))) H) ta (tC .non)) (B true) := ev_isNO (α := Unit) (R := fun _ => B true) (o := none) (fun _ => nev_c (fun z => nomatch z)) ha
theorem num_of {r : Rat} {t b : Int} (hb : b ≠ 0) (h : r * (b : Rat) = (t : Rat)) : r.num * b = t * r.den := by
  have hb' : (b : Rat) ≠ 0 := by exact_mod_cast hb
  have e : r = Rat.divInt t b := by
    rw [Rat.divInt_eq_div, ← h]
    grind
  have := r_cross (t := t) hb
  rw [← e] at this
  exact this
end
end Y
namespace Y
open PySem L2
section
variable {Z : Bs} {F H F' H' : Hp} {σ σ' : L2.St} {Γ Γ' : Gm} {Ω Ω' Ωr : Om} {K : PySem.W.Frag} {te ta ti tl : TE} {n : L2.St → Hp → Prop} {r : VK} {bk ct : L2.St → Hp → Prop} {R : As} {Rs : List As} {p : Addr} {j : Nat}
def rInsert : V → List V → Hp → VK → Prop := fun x vs H Q => ∃ (l : Addr) (xs : List V) (i : Int) (y : V), x = .ref l ∧ vs = [.int i, y] ∧ H l = some (.lst xs) ∧ xs.length < sizeLine ∧ 0 ≤ i ∧ i < 2 ^ 63 ∧
    Q .non (upd H l (.lst (xs.take i.toNat ++ [y] ++ xs.drop i.toNat)))
/-- x.insert(i, e), x owned -/
theorem st_ins {i : Int} (c : Ctx Z F H σ Γ Ω) (h : Ev Γ Ω ta (Rf p)) (hm : Ω[j]? = some (p, oL Rs)) (ei : Ev Γ Ω ti (I i)) (e : Ev Γ Ω te R) (hl : Rs.length ≤ 100000) (h0 : 0 ≤ i) (h1 : i < 2 ^ 63) (k : ∀ F' H', Ctx Z F' H' σ Γ (Ω.set j (p, oL (Rs.take i.toNat ++ [R] ++ Rs.drop i.toNat))) → n σ H') (hro : Z.ro = [] := by rfl) :
    tDrop (tBM K "list" rInsert ta (tCons ti (tCons te tNil))) ⟨n, r, bk, ct⟩ σ H :=
  h Z F H σ c _ fun v F1 H1 c1 s1 rv => by
    cases rv
    obtain ⟨_, o, h2, xs, eo, hx⟩ := c1.own _ (List.mem_of_getElem? hm)
    refine ⟨.inl ⟨rfl, _, SqL.of (by rw [h2, eo])⟩, ?_⟩
    refine ei Z F1 H1 σ c1 _ fun y F2 H2 c2 s2 ry => ?_
    cases ry
    refine e Z F2 H2 σ c2 _ fun y F3 H3 c3 s3 ry => ?_
    obtain ⟨_, o, h2, xs, eo, hx⟩ := c3.own _ (List.mem_of_getElem? hm)
    refine ⟨p, xs, i, y, rfl, rfl, by rw [h2, eo], ?_, h0, h1, ?_⟩
    · rw [hx.length]
      exact Nat.lt_of_le_of_lt hl (by decide)
    · have hone : All F3 [R] [y] := ⟨ry, trivial⟩
      exact k F3 _ (c3.chg hm ⟨_, rfl, ((hx.take _).app hone).app (hx.drop _)⟩ (c3.wr hm hro))
/-- x.clear(), x owned -/
theorem st_clear (c : Ctx Z F H σ Γ Ω) (h : Ev Γ Ω ta (Rf p)) (hm : Ω[j]? = some (p, oL Rs)) (k : ∀ F' H', Ctx Z F' H' σ Γ (Ω.set j (p, oL [])) → n σ H') (hro : Z.ro = [] := by rfl) :
    tDrop (tBM0 K "list" rClear ta) ⟨n, r, bk, ct⟩ σ H :=
  h Z F H σ c _ fun v F1 H1 c1 s1 rv => by
    cases rv
    obtain ⟨_, o, h2, xs, eo, hx⟩ := c1.own _ (List.mem_of_getElem? hm)
    exact ⟨.inl ⟨rfl, _, SqL.of (by rw [h2, eo])⟩, p, xs, rfl, rfl, by rw [h2, eo], k F1 _ (c1.chg hm ⟨_, rfl, trivial⟩ (c1.wr hm hro))⟩
theorem kd_l2 {α β : Type} {f : α → As} {d : α → PyData} {k : Nat} {g : β → As} {e : β → PyData} {m : Nat} (h : Kd K f d k) (h2 : Kd K g e m) : Kd K (fun p : α × β => Ls K [f p.1, g p.2]) (fun p => .list [d p.1, e p.2]) (max k m + 1) :=
  ⟨fun p => isd_lst ⟨h.is _, h2.is _, trivial⟩, fun p => gd_list fun d' hd => by
    rcases List.mem_cons.mp hd with z | hd
    · subst z; exact ⟨(h.gd _).1, Nat.le_trans (h.gd _).2 (Nat.le_max_left _ _)⟩
    · rcases List.mem_cons.mp hd with z | hd
      · subst z; exact ⟨(h2.gd _).1, Nat.le_trans (h2.gd _).2 (Nat.le_max_right _ _)⟩
      · exact absurd hd List.not_mem_nil, fun x y => by
    obtain ⟨a, b⟩ := x
    obtain ⟨a', b'⟩ := y
    have e1 := h.eq a a'
    have e2 := h2.eq b b'
    simp only [PyData.eqv, PyData.eqvAll, Bool.and_true, Prod.mk.injEq]
    rw [Bool.and_eq_true, e1, e2]⟩
end
end Y
namespace Y
open PySem L2
section
variable {Γ : Gm} {Ω : Om} {K : PySem.W.Frag} {te : TE}
theorem eo_lcA {α : Type} {wi : TI} {xs : List α} {f : α → As} {g : TG} {vs : List Nat} (G' : α → Gm) (res : α → As) {ws : List Nat} (e : Src Γ Ω wi xs f) (hg : ∀ x, Gt (wipeG Γ vs) (f x) g (G' x) ws) (hw : ∀ i ∈ ws, i ∈ vs)
    (he : ∀ x ∈ xs, Ev (G' x) Ω te (res x)) (hlen : xs.length ≤ 100000) : EvNw Γ Ω (tLc wi g tYes te vs) (oL (xs.map res)) := by
  have z := eo_lc (te := te) (tt := tYes) G' (fun _ => true) res e hg hw (fun _ _ => et_yes) (fun x hx _ => he x hx) hlen
  rw [List.filter_eq_self.mpr (fun _ _ => rfl)] at z
  exact z
end
end Y
namespace Y
open PySem L2
section
variable {Z : Bs} {F H F' H' : Hp} {σ σ' : L2.St} {Γ Γ' : Gm} {Ω Ω' Ωr : Om} {K : PySem.W.Frag} {te ta ti tl : TE} {tt : TT} {R : As} {Rs : List As} {p : Addr} {i j : Nat} {b : Bool}
theorem set_same {σ : L2.St} {v : V} (e1 : σ[i]? = some (some v)) : σ.set i (some v) = σ := by
  apply List.ext_getElem?
  intro k
  rw [List.getElem?_set]
  split
  · rename_i hk
    subst hk
    split
    · exact e1.symm
    · rename_i hk
      rw [List.getElem?_eq_none (by omega)]
  · rfl
/-- an owned list in a slot, frozen from here on -/
theorem Ctx.frzS (c : Ctx Z F H σ Γ Ω) (hi : Γ[i]? = some (some (Rf p))) (hm : Ω[j]? = some (p, oL Rs)) (hz : Z.ft = []) (hro : Z.ro = [] := by rfl) : ∃ F', Same F F' ∧ Ctx Z F' H σ (Γ.set i (some (Ls K Rs))) (Ω.eraseIdx j) := by
  obtain ⟨F', s, c', q⟩ := c.frz (K := K) hm rdL hz hro
  obtain ⟨v, e1, e2⟩ := c.sat.get hi
  have e2 : v = .ref p := e2
  subst e2
  have z := c'.set i q
  rw [set_same e1] at z
  exact ⟨F', s, z⟩
theorem et_peek (hm : Ω[j]? = some (p, oL Rs)) (hi : Γ[i]? = some (some (Rf p))) (h : EvT (Γ.set i (some (Ls K Rs))) (Ω.eraseIdx j) tt b) : EvT Γ Ω tt b := fun Z F H σ c Q q =>
  ev_peek (K := K) (te := fun σ H Q => tt σ H (fun b H' => Q (.bl b) H')) (w := .bl b) hm hi (fun Z F H σ c Q q => h Z F H σ c _ (fun F' H' c' e => q _ F' H' c' e rfl)) Z F H σ c (fun v H' => match v with | .bl b' => Q b' H' | _ => False) (fun v F' H' c' e rv => by
    cases rv
    exact q F' H' c' e)
end
end Y

namespace L2
open PySem PySem.Spec PyProof.Rows
/-! ## zip of three lists -/
def Itz3 (K : PySem.W.Frag) (a b c : Addr) : It :=
  ⟨fun i H => ∃ (xs ys us : List V) (x y u : V), SqL K H a xs ∧ SqL K H b ys ∧ SqL K H c us ∧ xs[i]? = some x ∧ ys[i]? = some y ∧ us[i]? = some u,
    fun i H v H' => ∃ T x y u, v = .ref T ∧ H T = none ∧ H' = upd H T (.tup [x, y, u]) ∧ (∀ xs, SqL K H a xs → xs[i]? = some x) ∧ (∀ ys, SqL K H b ys → ys[i]? = some y) ∧ ∀ us, SqL K H c us → us[i]? = some u,
    fun i H => ∃ xs ys us : List V, SqL K H a xs ∧ SqL K H b ys ∧ SqL K H c us ∧ i = min (min xs.length ys.length) us.length⟩
theorem turn_zip3 {P : Program} {w : World} {K : PySem.W.Frag} {elts : List Expr} {kk : Nat} {tpos : Pos} {a b c z TI TO i1 i2 i3 : Addr} (S : ZipSep3 z TI TO i1 i2 i3 [i1, a] [i2, b] [i3, c]) :
    Turn P w K (.Tuple elts kk tpos) (Itz3 K a b c) [z, TI, TO, i1, i2, i3] z (fun i h => IsZip h z TI TO .none ∧ IsTupOf3 h TI (.ref i1) (.ref i2) (.ref i3) ∧ (∃ x y u, IsTupOf3 h TO x y u) ∧ h.IsListIter i1 a i ∧ h.IsListIter i2 b i ∧ h.IsListIter i3 c i) where
  mem := by simp
  obj := fun i h st d hd => by
    obtain ⟨hz, hTI, ⟨x, y, u, hTO⟩, ⟨o1, e1, _, d1⟩, ⟨o2, e2, _, d2⟩, ⟨o3, e3, _, d3⟩⟩ := st
    have e' : d = z ∨ d = TI ∨ d = TO ∨ d = i1 ∨ d = i2 ∨ d = i3 := by simpa using hd
    rcases e' with q | q | q | q | q | q
    · rw [q]; exact ⟨_, hz, fun v q => nomatch q⟩
    · rw [q]; exact ⟨_, hTI, fun v q => nomatch q⟩
    · rw [q]; exact ⟨_, hTO, fun v q => nomatch q⟩
    · rw [q]; exact ⟨o1, e1, fun v q => by rw [d1] at q; cases q⟩
    · rw [q]; exact ⟨o2, e2, fun v q => by rw [d2] at q; cases q⟩
    · rw [q]; exact ⟨o3, e3, fun v q => by rw [d3] at q; cases q⟩
  keep := fun i h h' st k => by
    obtain ⟨hz, hTI, ⟨x, y, u, hTO⟩, h1, h2, h3⟩ := st
    exact ⟨k z (by simp) _ hz, k TI (by simp) _ hTI, ⟨x, y, u, k TO (by simp) _ hTO⟩, h1.at fun o q => k i1 (by simp) o q, h2.at fun o q => k i2 (by simp) o q, h3.at fun o q => k i3 (by simp) o q⟩
  item := by
    intro X hP hw hK hc i pins s σ H E I hf st hg
    subst hP hw hK
    obtain ⟨hz, hTI, ⟨x0, y0, u0, hTO⟩, h1, h2, h3⟩ := st
    obtain ⟨xs, ys, us, x, y, u, hqx, hqy, hqu, hx, hy, hu⟩ := hg
    obtain ⟨its, rv, p, _⟩ := I.list hqx
    obtain ⟨its2, rv2, p2, _⟩ := I.list hqy
    obtain ⟨its3, rv3, p3, _⟩ := I.list hqu
    obtain ⟨v1, hv1, ru1⟩ := rv.get hx
    obtain ⟨v2, hv2, ru2⟩ := rv2.get hy
    obtain ⟨v3, hv3, ru3⟩ := rv3.get hu
    have hh : X.A.in1.handled = none := I.ok.hd hc
    have apart : ∀ {l it : Addr} {items : Array Value} {j : Nat}, s.heap.IsList l items → s.heap.IsListIter it l j → l ≠ it := fun hl hi e => by
      obtain ⟨o, e1, c1, _⟩ := hl
      obtain ⟨o2, e2, c2, _⟩ := hi
      rw [e, e2] at e1
      cases e1
      rw [c1] at c2
      exact absurd (Value.type.inj c2) (by decide)
    have n1 := apart p.isList h1
    have n2 := apart p2.isList h2
    have n3 := apart p3.isList h3
    have W := GoesN.zip3 (prog := X.prog) (w := X.w) (A := X.A) (elts := elts) (x1 := kk) (pos := tpos) S (Draws.list hh i1 a n1 its.toArray) (Draws.list hh i2 b n2 its2.toArray) (Draws.list hh i3 c n3 its3.toArray)
    have hi : i < min (min its.toArray.size its2.toArray.size) its3.toArray.size := by
      have := (List.getElem?_eq_some_iff.mp hv1).1
      have := (List.getElem?_eq_some_iff.mp hv2).1
      have := (List.getElem?_eq_some_iff.mp hv3).1
      simp
      omega
    refine W.goes i s _ _ hi ⟨hz, hTI, ⟨x0, y0, u0, hTO⟩, ⟨h1, p.isList⟩, ⟨h2, p2.isList⟩, ⟨h3, p3.isList⟩⟩ (fun v h' tk hY st' hk htk => ?_)
    obtain ⟨T, w1, w2, w3, ev, hT, e1, e2, e3, hTt⟩ := hY
    subst ev
    obtain ⟨z', TI', TO', ⟨h1', _⟩, ⟨h2', _⟩, ⟨h3', _⟩⟩ := st'
    have f1 : v1 = w1 := by
      have e : its.toArray[i]? = some v1 := by simpa using hv1
      rw [e] at e1; exact Option.some.inj e1
    have f2 : v2 = w2 := by
      have e : its2.toArray[i]? = some v2 := by simpa using hv2
      rw [e] at e2; exact Option.some.inj e2
    have f3 : v3 = w3 := by
      have e : its3.toArray[i]? = some v3 := by simpa using hv3
      rw [e] at e3; exact Option.some.inj e3
    subst f1 f2 f3
    have new : ObjOk X.prog X.w (upd H T (.tup [x, y, u])) h' T (.tup [x, y, u]) := by
      obtain ⟨o, ho, hcl, n, hd⟩ := hTt
      exact ⟨by show 3 ≤ sizeLine; decide, [v1, v2, v3], .cons ru1 (.cons ru2 (.cons ru3 .nil)), ⟨o, ho, hcl, n, hd⟩⟩
    have I1 : Inv X pins σ (upd H T (.tup [x, y, u])) { s with heap := h', toks := tk } :=
      I.turnedNew (t' := tk) (ch := [z, TO, i1, i2, i3]) hk (fun d hd => hf d (by simp at hd ⊢; rcases hd with q | q | q | q | q <;> simp [q])) hT new
    refine ⟨.ref T, _, I1, rfl, ⟨T, x, y, u, rfl, I.hok.fresh hT, rfl, fun l hl => by rw [I.list_inj hl hqx]; exact hx, fun l hl => by rw [I.list_inj hl hqy]; exact hy, fun l hl => by rw [I.list_inj hl hqu]; exact hu⟩, ⟨z', TI', TO', h1', h2', h3'⟩, fun d hd => ?_⟩
    have hlt : d < s.heap.objs.size := by
      have e' : d = z ∨ d = TI ∨ d = TO ∨ d = i1 ∨ d = i2 ∨ d = i3 := by simpa using hd
      rcases e' with q | q | q | q | q | q
      · rw [q]; exact Heap.lt_size hz
      · rw [q]; exact Heap.lt_size hTI
      · rw [q]; exact Heap.lt_size hTO
      · rw [q]; obtain ⟨_, e1, _⟩ := h1; exact Heap.lt_size e1
      · rw [q]; obtain ⟨_, e2, _⟩ := h2; exact Heap.lt_size e2
      · rw [q]; obtain ⟨_, e3, _⟩ := h3; exact Heap.lt_size e3
    rw [upd_ne (Nat.ne_of_lt (Nat.lt_of_lt_of_le hlt hT))]
    exact (hf d hd).1
  done := by
    intro X hP hw hK hc i pins s σ H E I hf st hg
    subst hP hw hK
    obtain ⟨hz, hTI, ⟨x0, y0, u0, hTO⟩, h1, h2, h3⟩ := st
    obtain ⟨xs, ys, us, hqx, hqy, hqu, hi⟩ := hg
    obtain ⟨its, rv, p, _⟩ := I.list hqx
    obtain ⟨its2, rv2, p2, _⟩ := I.list hqy
    obtain ⟨its3, rv3, p3, _⟩ := I.list hqu
    have hh : X.A.in1.handled = none := I.ok.hd hc
    have apart : ∀ {l it : Addr} {items : Array Value} {j : Nat}, s.heap.IsList l items → s.heap.IsListIter it l j → l ≠ it := fun hl hi e => by
      obtain ⟨o, e1, c1, _⟩ := hl
      obtain ⟨o2, e2, c2, _⟩ := hi
      rw [e, e2] at e1
      cases e1
      rw [c1] at c2
      exact absurd (Value.type.inj c2) (by decide)
    have W := GoesN.zip3 (prog := X.prog) (w := X.w) (A := X.A) (elts := elts) (x1 := kk) (pos := tpos) S (Draws.list hh i1 a (apart p.isList h1) its.toArray) (Draws.list hh i2 b (apart p2.isList h2) its2.toArray) (Draws.list hh i3 c (apart p3.isList h3) its3.toArray)
    have hi' : i = min (min its.toArray.size its2.toArray.size) its3.toArray.size := by
      have l1 := rv.length
      have l2 := rv2.length
      have l3 := rv3.length
      simp
      omega
    subst hi'
    refine W.stops s _ _ ⟨hz, hTI, ⟨x0, y0, u0, hTO⟩, ⟨h1, p.isList⟩, ⟨h2, p2.isList⟩, ⟨h3, p3.isList⟩⟩ (fun h' tk hk _ => ?_)
    exact I.turnedL (t' := tk) (ch := [z, TO, i1, i2, i3]) hk (fun d hd => hf d (by simp at hd ⊢; rcases hd with q | q | q | q | q <;> simp [q]))
  self := fun A i s Q E st h => wpAny_pyIter_zip st.1 h
def iZip3 (K : PySem.W.Frag) (ta : TA) : TI := fun σ H R => ta σ H fun vs H1 => ∃ a b c xs ys us, vs = [.ref a, .ref b, .ref c] ∧ SqL K H1 a xs ∧ SqL K H1 b ys ∧ SqL K H1 c us ∧ R (Itz3 K a b c) H1
theorem pi_zip3 {X : Cx} {e e2 e3 : Expr} {ta : TA} {p pos tpos : Pos} {elts : List Expr} {kk : Nat} (hg : Gl X "zip") (hm : X.mg "zip" = none) (ha : PA X [e, e2, e3] ta)
    (hs : starEach [e, e2, e3] X.env = (false, eval e X.env) :: starEach [e2, e3] X.env := by rfl) (hpl : (backTo pos (starEach [e2, e3] X.env)).any (·.1) = false := by rfl) :
    PI X (.Tuple elts kk tpos) (.Call (.Name "zip" p) [e, e2, e3] [] pos) (iZip3 X.K ta) := by
  refine ⟨fun pins s σ H R I h => ?_⟩
  refine Call_ (ld_blt I hg hm PyProof.Rows.boot_zip (PyProof.Rows.callWith_type1 (thn (ha.run pos pins s σ H _ I h) fun us s1 ⟨vs, H1, I1, r1, q1⟩ => ?_) hs hpl))
  obtain ⟨a, b, c, xs, ys, us', ex, hqx, hqy, hqu, q⟩ := q1
  subst ex
  cases r1 with
  | cons r rr =>
    cases rr with
    | cons r' rr =>
      cases rr with
      | cons r'' rr =>
        cases rr
        cases r
        cases r'
        cases r''
        obtain ⟨its, rv, p1, _⟩ := I1.list hqx
        obtain ⟨its2, rv2, p2, _⟩ := I1.list hqy
        obtain ⟨its3, rv3, p3, _⟩ := I1.list hqu
        have la : a < s1.heap.objs.size := p1.lt
        have lb : b < s1.heap.objs.size := p2.lt
        have lc : c < s1.heap.objs.size := p3.lt
        refine zip_begins3 (begins_list a its.toArray) (begins_list b its2.toArray) (begins_list c its3.toArray) p1.isList p2.isList p3.isList fun h' hz hTI hTO h1 h2 h3 hsz hk => wpAny_pyIter_zip hz ?_
        have I2 : Inv X pins σ H1 { s1 with heap := h' } := I1.kept (t' := s1.toks) hk
        refine ⟨s1.heap.objs.size + 5, [s1.heap.objs.size + 5, s1.heap.objs.size + 3, s1.heap.objs.size + 4, s1.heap.objs.size, s1.heap.objs.size + 1, s1.heap.objs.size + 2], _, _, H1, rfl, I2, turn_zip3 (a := a) (b := b) (c := c) (zip_sep3 (N := s1.heap.objs.size) (fun d hd => by rw [List.mem_singleton.mp hd]; exact la) (fun d hd => by rw [List.mem_singleton.mp hd]; exact lb) (fun d hd => by rw [List.mem_singleton.mp hd]; exact lc)), ⟨hz, hTI, ⟨_, _, _, hTO⟩, ⟨_, h1, rfl, rfl⟩, ⟨_, h2, rfl, rfl⟩, ⟨_, h3, rfl, rfl⟩⟩, fun d hdm => ?_, q⟩
        have hle : s1.heap.objs.size ≤ d := by
          have e' : d = s1.heap.objs.size + 5 ∨ d = s1.heap.objs.size + 3 ∨ d = s1.heap.objs.size + 4 ∨ d = s1.heap.objs.size ∨ d = s1.heap.objs.size + 1 ∨ d = s1.heap.objs.size + 2 := by simpa using hdm
          rcases e' with z | z | z | z | z | z
          · rw [z]; exact Nat.le_add_right _ _
          · rw [z]; exact Nat.le_add_right _ _
          · rw [z]; exact Nat.le_add_right _ _
          · rw [z]; exact Nat.le_refl _
          · rw [z]; exact Nat.le_add_right _ _
          · rw [z]; exact Nat.le_add_right _ _
        exact I1.fpOk hle (I1.hok.fresh hle)
end L2
namespace Y
open PySem L2
section
variable {Z : Bs} {F H F' H' : Hp} {σ σ' : L2.St} {Γ Γ' : Gm} {Ω Ω' : Om} {K : PySem.W.Frag} {te ta tb tl : TE} {α β γ : Type}
theorem All.three {F : Hp} {R R' R'' : As} : ∀ {vs : List V}, All F [R, R', R''] vs → ∃ v w u, vs = [v, w, u] ∧ R.p F v ∧ R'.p F w ∧ R''.p F u
  | [], h => h.elim
  | [_], h => h.2.elim
  | [_, _], h => h.2.2.elim
  | [v, w, u], h => ⟨v, w, u, rfl, h.1, h.2.1, h.2.2.1⟩
  | _ :: _ :: _ :: _ :: _, h => h.2.2.2.elim
theorem src_z {xs : List α} {ys : List β} {f : α → As} {g : β → As} {ta : TA} (e : EvA Γ Ω ta [Ls K (xs.map f), Ls K (ys.map g)]) : Src Γ Ω (iZip K ta) (xs.zip ys) (fun p => Tp K [f p.1, g p.2]) := fun Z F H σ c R q => e Z F H σ c _ fun vs F1 H1 c1 s1 rv => by
  obtain ⟨v, w, rfl, ⟨a, vs, ea, hs, hl⟩, ⟨b, ws, eb, hs', hl'⟩⟩ := rv.two
  subst ea eb
  have l1 : vs.length = xs.length := by rw [hl.length, List.length_map]
  have l2 : ws.length = ys.length := by rw [hl'.length, List.length_map]
  refine ⟨a, b, vs, ws, rfl, c1.sub.seq hs, c1.sub.seq hs', q _ F1 H1 c1 s1 fun Z' F2 H2 σ2 Γ2 Ω2 c2 s2 => ?_⟩
  have ha2 := c2.sub.seq (s2.seq hs)
  have hb2 := c2.sub.seq (s2.seq hs')
  refine ⟨⟨vs, ws, ha2, hb2, by rw [List.length_zip]; omega⟩, fun i x hx => ?_⟩
  obtain ⟨h1, h2⟩ := List.getElem?_zip_eq_some.mp hx
  obtain ⟨v1, e1, r1⟩ := hl.get (i := i) (R := f x.1) (by rw [List.getElem?_map, h1]; rfl)
  obtain ⟨w1, e2, r2⟩ := hl'.get (i := i) (R := g x.2) (by rw [List.getElem?_map, h2]; rfl)
  refine ⟨⟨vs, ws, v1, w1, ha2, hb2, e1, e2⟩, fun v H3 hy => ?_⟩
  obtain ⟨T, x', y', ev, hT, eH, k1, k2⟩ := hy
  subst ev eH
  have := k1 vs ha2
  rw [e1] at this
  cases this
  have := k2 ws hb2
  rw [e2] at this
  cases this
  obtain ⟨e3, s3⟩ := Ext.new (o := .tup [v1, w1]) c2.sub hT
  exact ⟨_, e3, s3, T, _, rfl, SqT.of upd_same, (f x.1).mono (s2.trans e3.fe) r1, (g x.2).mono (s2.trans e3.fe) r2, trivial⟩
theorem src_z3 {xs : List α} {ys : List β} {zs : List γ} {f : α → As} {g : β → As} {h : γ → As} {ta : TA} (e : EvA Γ Ω ta [Ls K (xs.map f), Ls K (ys.map g), Ls K (zs.map h)]) : Src Γ Ω (iZip3 K ta) (xs.zip (ys.zip zs)) (fun p => Tp K [f p.1, g p.2.1, h p.2.2]) := fun Z F H σ c R q => e Z F H σ c _ fun vs F1 H1 c1 s1 rv => by
  obtain ⟨v, w, u, rfl, ⟨a, vs, ea, hs, hl⟩, ⟨b, ws, eb, hs', hl'⟩, ⟨d, us, ed, hs'', hl''⟩⟩ := rv.three
  subst ea eb ed
  have l1 : vs.length = xs.length := by rw [hl.length, List.length_map]
  have l2 : ws.length = ys.length := by rw [hl'.length, List.length_map]
  have l3 : us.length = zs.length := by rw [hl''.length, List.length_map]
  refine ⟨a, b, d, vs, ws, us, rfl, c1.sub.seq hs, c1.sub.seq hs', c1.sub.seq hs'', q _ F1 H1 c1 s1 fun Z' F2 H2 σ2 Γ2 Ω2 c2 s2 => ?_⟩
  have ha2 := c2.sub.seq (s2.seq hs)
  have hb2 := c2.sub.seq (s2.seq hs')
  have hd2 := c2.sub.seq (s2.seq hs'')
  refine ⟨⟨vs, ws, us, ha2, hb2, hd2, by rw [List.length_zip, List.length_zip]; omega⟩, fun i x hx => ?_⟩
  obtain ⟨h1, h23⟩ := List.getElem?_zip_eq_some.mp hx
  obtain ⟨h2, h3⟩ := List.getElem?_zip_eq_some.mp h23
  obtain ⟨v1, e1, r1⟩ := hl.get (i := i) (R := f x.1) (by rw [List.getElem?_map, h1]; rfl)
  obtain ⟨w1, e2, r2⟩ := hl'.get (i := i) (R := g x.2.1) (by rw [List.getElem?_map, h2]; rfl)
  obtain ⟨u1, e3, r3⟩ := hl''.get (i := i) (R := h x.2.2) (by rw [List.getElem?_map, h3]; rfl)
  refine ⟨⟨vs, ws, us, v1, w1, u1, ha2, hb2, hd2, e1, e2, e3⟩, fun v H3 hy => ?_⟩
  obtain ⟨T, x', y', z', ev, hT, eH, k1, k2, k3⟩ := hy
  subst ev eH
  have := k1 vs ha2
  rw [e1] at this
  cases this
  have := k2 ws hb2
  rw [e2] at this
  cases this
  have := k3 us hd2
  rw [e3] at this
  cases this
  obtain ⟨e4, s4⟩ := Ext.new (o := .tup [v1, w1, u1]) c2.sub hT
  exact ⟨_, e4, s4, T, _, rfl, SqT.of upd_same, (f x.1).mono (s2.trans e4.fe) r1, (g x.2.1).mono (s2.trans e4.fe) r2, (h x.2.2).mono (s2.trans e4.fe) r3, trivial⟩
/-- a module's constant that is a tuple of two ints -/
def KtQ (K : PySem.W.Frag) (a : Addr) (x y : Int) : Prop := ∀ F : Hp, SqT K F a [.int x, .int y]
theorem ktq_mk {a : Addr} {dd : Option Addr} {sl : Array (Option Value)} {x y : Int} {t1 t2 : Tok} {n : Nat} (h : K.lookup a = some ⟨.type "tuple", dd, .seq #[.int x t1, .int y t2] n, sl⟩) : KtQ K a x y := fun F =>
  .inr ⟨_, #[.int x t1, .int y t2], n, h, rfl, rfl, by show 2 ≤ sizeLine; decide, .cons ⟨t1, rfl⟩ (.cons ⟨t2, rfl⟩ .nil)⟩
theorem ev_kt {a : Addr} {x y : Int} (h : KtQ K a x y) : Ev Γ Ω (tC (.ref a)) (Fr K (x, y)) := fun Z F H σ c Q q => q _ F H c (Ext.refl _ _ _) ⟨a, _, rfl, h F, rfl, rfl, trivial⟩
theorem ev_ktq {a : Addr} {x : Int} (h : KtQ K a x 1) : Ev Γ Ω (tC (.ref a)) (Fq K (x : Rat)) := ev_kt h
end
end Y
namespace Y
open PySem L2
theorem ev_kt0 {Γ : Gm} {Ω : Om} {K : PySem.W.Frag} {a : Addr} (h : KtQ K a 0 1) : Ev Γ Ω (tC (.ref a)) (Fq K 0) := ev_kt h
end Y

namespace Y
open PySem L2 PySem.Spec
open PyProof.Rows (envOfC)
/-! ## new things inside methods; contracts that hand out more than they took -/
section
variable {Z : Bs} {F H F' H' : Hp} {σ σ' : L2.St} {Γ Γ' : Gm} {Ω Ω' Ωr : Om} {K : PySem.W.Frag} {te ta tb tl tk : TE} {tt : TT} {R Rx Ry : As} {Rs Ss : List As} {n : L2.St → Hp → Prop} {r : VK} {bk ct : L2.St → Hp → Prop} {p C dx : Addr} {fs : List (Str × As)} {f m : Str} {j : Nat} {E : XK} {A : OA}
/-- p may be written -/
def Wr (Z : Bs) (p : Addr) : Prop := p ∈ Z.ft ∨ Z.H p = none
theorem Ctx.frzW (c : Ctx Z F H σ Γ Ω) (hm : Ω[j]? = some (p, A)) (hA : RdL A Rs) (hzp : Z.H p = none) : ∃ F', Same F F' ∧ Ctx Z F' H σ Γ (Ω.eraseIdx j) ∧ (Ls K Rs).p F' (.ref p) := by
  have hmem := List.mem_of_getElem? hm
  have hj : j < Ω.length := (List.getElem?_eq_some_iff.mp hm).1
  obtain ⟨hf, o0, h0, hA0⟩ := c.own _ hmem
  obtain ⟨xs, e, hl⟩ := hA.rd _ _ hA0
  dsimp only at hf h0
  have s : Same F (upd F p (.lst xs)) := fun a u q => by rw [upd_ne (ne_of_none q hf)]; exact q
  have other : ∀ x ∈ Ω.eraseIdx j, x ∈ Ω ∧ x.1 ≠ p := fun x hx => by
    have hx' := List.mem_of_mem_eraseIdx hx
    refine ⟨hx', fun z => ?_⟩
    obtain ⟨i, hi⟩ := List.getElem?_of_mem hx
    rw [List.getElem?_eraseIdx] at hi
    split at hi
    · have a1 : (Ω.map (·.1))[i]? = some p := by rw [List.getElem?_map, hi, ← z]; rfl
      have a2 : (Ω.map (·.1))[j]? = some p := by rw [List.getElem?_map, hm]; rfl
      have := nd_ix c.nd a1 a2
      omega
    · have a1 : (Ω.map (·.1))[i + 1]? = some p := by rw [List.getElem?_map, hi, ← z]; rfl
      have a2 : (Ω.map (·.1))[j]? = some p := by rw [List.getElem?_map, hm]; rfl
      have := nd_ix c.nd a1 a2
      omega
  refine ⟨upd F p (.lst xs), s, ⟨c.sat.mono s, fun a u q => ?_, fun x hx => ?_, ((List.eraseIdx_sublist Ω j).map _).nodup c.nd, fun x hx => c.loc x (other x hx).1, ⟨c.ext.fe.trans s, c.ext.fr, c.ext.dm, fun a h1 h2 => ?_⟩, c.pin.trans s⟩, p, xs, rfl, SqL.of upd_same, hl.mono s⟩
  · by_cases z : a = p
    · subst z
      rw [upd_same] at q
      rw [h0, e]
      exact q
    · rw [upd_ne z] at q
      exact c.sub a u q
  · obtain ⟨hx1, hx2⟩ := other x hx
    obtain ⟨h1, o', h2, h3⟩ := c.own x hx1
    exact ⟨by rw [upd_ne hx2]; exact h1, o', h2, x.2.mono s h3⟩
  · have z : a ≠ p := fun z => h1 (by rw [z]; exact hzp)
    rw [upd_ne z]
    exact c.ext.nw a h1 h2
/-- a list that stands still, made by the program -/
def Lh (Rs : List As) : As := ⟨fun F v => ∃ a xs, v = .ref a ∧ F a = some (.lst xs) ∧ All F Rs xs, fun s h => by
  obtain ⟨a, xs, e, h1, h2⟩ := h; exact ⟨a, xs, e, s _ _ h1, h2.mono s⟩⟩
theorem ev_lh (h : Ev Γ Ω te (Lh Rs)) : Ev Γ Ω te (Ls K Rs) := ev_cast h fun F v ⟨a, xs, e, h1, h2⟩ => ⟨a, xs, e, SqL.of h1, h2⟩
theorem Ctx.frzH (c : Ctx Z F H σ Γ Ω) (hm : Ω[j]? = some (p, A)) (hA : RdL A Rs) (hzp : Z.H p = none) : ∃ F', Same F F' ∧ Ctx Z F' H σ Γ (Ω.eraseIdx j) ∧ (Lh Rs).p F' (.ref p) := by
  have hmem := List.mem_of_getElem? hm
  have hj : j < Ω.length := (List.getElem?_eq_some_iff.mp hm).1
  obtain ⟨hf, o0, h0, hA0⟩ := c.own _ hmem
  obtain ⟨xs, e, hl⟩ := hA.rd _ _ hA0
  dsimp only at hf h0
  have s : Same F (upd F p (.lst xs)) := fun a u q => by rw [upd_ne (ne_of_none q hf)]; exact q
  have other : ∀ x ∈ Ω.eraseIdx j, x ∈ Ω ∧ x.1 ≠ p := fun x hx => by
    have hx' := List.mem_of_mem_eraseIdx hx
    refine ⟨hx', fun z => ?_⟩
    obtain ⟨i, hi⟩ := List.getElem?_of_mem hx
    rw [List.getElem?_eraseIdx] at hi
    split at hi
    · have a1 : (Ω.map (·.1))[i]? = some p := by rw [List.getElem?_map, hi, ← z]; rfl
      have a2 : (Ω.map (·.1))[j]? = some p := by rw [List.getElem?_map, hm]; rfl
      have := nd_ix c.nd a1 a2
      omega
    · have a1 : (Ω.map (·.1))[i + 1]? = some p := by rw [List.getElem?_map, hi, ← z]; rfl
      have a2 : (Ω.map (·.1))[j]? = some p := by rw [List.getElem?_map, hm]; rfl
      have := nd_ix c.nd a1 a2
      omega
  refine ⟨upd F p (.lst xs), s, ⟨c.sat.mono s, fun a u q => ?_, fun x hx => ?_, ((List.eraseIdx_sublist Ω j).map _).nodup c.nd, fun x hx => c.loc x (other x hx).1, ⟨c.ext.fe.trans s, c.ext.fr, c.ext.dm, fun a h1 h2 => ?_⟩, c.pin.trans s⟩, p, xs, rfl, upd_same, hl.mono s⟩
  · by_cases z : a = p
    · subst z
      rw [upd_same] at q
      rw [h0, e]
      exact q
    · rw [upd_ne z] at q
      exact c.sub a u q
  · obtain ⟨hx1, hx2⟩ := other x hx
    obtain ⟨h1, o', h2, h3⟩ := c.own x hx1
    exact ⟨by rw [upd_ne hx2]; exact h1, o', h2, x.2.mono s h3⟩
  · have z : a ≠ p := fun z => h1 (by rw [z]; exact hzp)
    rw [upd_ne z]
    exact c.ext.nw a h1 h2
/-- less (or other) things said of what is owned -/
theorem Ctx.recast {B : OA} (c : Ctx Z F H σ Γ Ω) (hm : Ω[j]? = some (p, A)) (h : ∀ o, A.p F o → B.p F o) : Ctx Z F H σ Γ (Ω.set j (p, B)) := by
  have hj : j < Ω.length := (List.getElem?_eq_some_iff.mp hm).1
  have em : (Ω.set j (p, B)).map (·.1) = Ω.map (·.1) := by
    rw [List.map_set]
    refine List.ext_getElem? fun i => ?_
    rw [List.getElem?_set]
    split
    · rename_i e
      subst e
      split
      · rw [List.getElem?_map, hm]; rfl
      · rename_i h1; rw [List.length_map] at h1; exact absurd hj h1
    · rfl
  have mem : ∀ x, x ∈ Ω.set j (p, B) → x ∈ Ω ∨ x = (p, B) := fun x hx => by
    rcases List.mem_or_eq_of_mem_set hx with z | z
    · exact .inl z
    · exact .inr z
  refine ⟨c.sat, c.sub, fun x hx => ?_, by rw [em]; exact c.nd, fun x hx => ?_, c.ext, c.pin⟩
  · rcases mem x hx with z | z
    · exact c.own x z
    · subst z
      obtain ⟨h1, o, h2, h3⟩ := c.own _ (List.mem_of_getElem? hm)
      exact ⟨h1, o, h2, h o h3⟩
  · rcases mem x hx with z | z
    · exact c.loc x z
    · subst z
      exact c.loc (p, A) (List.mem_of_getElem? hm)
theorem st_nilW {i : Nat} (c : Ctx Z F H σ Γ Ω) (k : ∀ p F' H' σ', Ctx Z F' H' σ' (Γ.set i (some (Rf p))) ((p, oL []) :: Ω) → Same F F' → Z.H p = none → n σ' H') : tAsg (tLst tNil) (gName i) ⟨n, r, bk, ct⟩ σ H :=
  ⟨Nat.zero_le _, fun p hp => k p F _ _ ((c.grow (A := oL []) hp ⟨[], rfl, trivial⟩).set i rfl) (Same.refl _) (c.ext.dm _ hp)⟩
theorem st_appW (c : Ctx Z F H σ Γ Ω) (h : Ev Γ Ω ta (Rf p)) (hm : Ω[j]? = some (p, oL Rs)) (e : Ev Γ Ω te R) (hl : Rs.length ≤ 100000) (k : ∀ F' H', Ctx Z F' H' σ Γ (Ω.set j (p, oL (Rs ++ [R]))) → Same F F' → n σ H') (hw : Wr Z p) :
    tDrop (tBM K "list" rAppend ta (tCons te tNil)) ⟨n, r, bk, ct⟩ σ H :=
  h Z F H σ c _ fun v F1 H1 c1 s1 rv => by
    cases rv
    obtain ⟨_, o, h2, xs, eo, hx⟩ := c1.own _ (List.mem_of_getElem? hm)
    refine ⟨.inl ⟨rfl, _, SqL.of (by rw [h2, eo])⟩, ?_⟩
    refine e Z F1 H1 σ c1 _ fun y F2 H2 c2 s2 ry => ?_
    obtain ⟨_, o, h2, xs, eo, hx⟩ := c2.own _ (List.mem_of_getElem? hm)
    refine ⟨p, xs, y, rfl, rfl, by rw [h2, eo], ?_, ?_⟩
    · rw [hx.length]
      exact Nat.lt_of_le_of_lt hl (by decide)
    · exact k F2 _ (c2.chg hm ⟨_, rfl, hx.app ⟨ry, trivial⟩⟩ hw) (s1.trans s2).fe
theorem st_retLW (c : Ctx Z F H σ Γ Ω) (h : Ev Γ Ω te (Rf p)) (hm : Ω[j]? = some (p, A)) (hA : RdL A Rs) (k : ∀ v F' H', Ctx Z F' H' σ Γ (Ω.eraseIdx j) → Same F F' → (Ls K Rs).p F' v → r v H') (hzp : Z.H p = none) : tRet te ⟨n, r, bk, ct⟩ σ H :=
  h Z F H σ c _ fun v F1 H1 c1 s1 rv => by
    cases rv
    obtain ⟨F2, s2, c2, q⟩ := c1.frzW (K := K) hm hA hzp
    exact k _ F2 H1 c2 (s1.fe.trans s2) q
theorem st_retLH (c : Ctx Z F H σ Γ Ω) (h : Ev Γ Ω te (Rf p)) (hm : Ω[j]? = some (p, A)) (hA : RdL A Rs) (k : ∀ v F' H', Ctx Z F' H' σ Γ (Ω.eraseIdx j) → Same F F' → (Lh Rs).p F' v → r v H') (hzp : Z.H p = none) : tRet te ⟨n, r, bk, ct⟩ σ H :=
  h Z F H σ c _ fun v F1 H1 c1 s1 rv => by
    cases rv
    obtain ⟨F2, s2, c2, q⟩ := c1.frzH hm hA hzp
    exact k _ F2 H1 c2 (s1.fe.trans s2) q
theorem st_fldW (c : Ctx Z F H σ Γ Ω) (e : Ev Γ Ω te R) (ha : Ev Γ Ω ta (Rf p)) (hm : Ω[j]? = some (p, oI C dx fs)) (hc : Cls K C) (hn : NoAttr K C f) (hl : fs.length < 1000) (k : ∀ F' H', Ctx Z F' H' σ Γ (Ω.set j (p, oI C dx (putA f R fs))) → Same F F' → n σ H') (hw : Wr Z p) :
    sFld K ta te f ⟨n, r, bk, ct⟩ σ H := e Z F H σ c _ fun y F1 H1 c1 s1 ry => ha Z F1 H1 σ c1 _ fun x F2 H2 c2 s2 rx => by
  cases rx
  obtain ⟨_, o, h2, vs, eo, ha⟩ := c2.own _ (List.mem_of_getElem? hm)
  subst eo
  refine ⟨p, C, dx, vs, rfl, h2, hc, hn, by rw [ha.length]; exact hl, ?_⟩
  exact k F2 _ (c2.chg hm ⟨_, rfl, ha.put (R.mono s2.fe ry)⟩ hw) (s1.trans s2).fe
/-- o.f = something new -/
theorem st_fldO (c : Ctx Z F H σ Γ Ω) (e : EvNw Γ Ω te A) (ha : ∀ q, Ev Γ ((q, A) :: Ω) ta (Rf p)) (hm : Ω[j]? = some (p, oI C dx fs)) (hc : Cls K C) (hn : NoAttr K C f) (hl : fs.length < 1000) (k : ∀ q F' H', Ctx Z F' H' σ Γ ((q, A) :: Ω.set j (p, oI C dx (putA f (Rf q) fs))) → Same F F' → Z.H q = none → n σ H') (hw : Wr Z p) :
    sFld K ta te f ⟨n, r, bk, ct⟩ σ H := e Z F H σ c _ fun q F1 H1 c1 s1 hq => ha q Z F1 H1 σ c1 _ fun x F2 H2 c2 s2 rx => by
  cases rx
  have hm2 : ((q, A) :: Ω)[j + 1]? = some (p, oI C dx fs) := hm
  obtain ⟨_, o, h2, vs, eo, ha⟩ := c2.own _ (List.mem_of_getElem? hm2)
  subst eo
  refine ⟨p, C, dx, vs, rfl, h2, hc, hn, by rw [ha.length]; exact hl, ?_⟩
  exact k q F2 _ (c2.chg hm2 ⟨_, rfl, ha.put rfl⟩ hw) (s1.trans s2).fe (c.ext.dm _ hq)
/-- behind a call that changes what it owns, and may hand out more -/
theorem Ctx.changedG {Ωi Ωo : Om} (c : Ctx Z F H σ Γ (Ωi ++ Ωr)) (e : Ext (Ωi.map (·.1)) F H F' H') (s : Same F' H') (o : Own F' H' Ωo) (nd : (Ωo.map (·.1)).Nodup) (hn : ∀ x ∈ Ωo.map (·.1), x ∈ Ωi.map (·.1) ∨ H x = none) (hw : ∀ x ∈ Ωi.map (·.1), Wr Z x) : Ctx Z F' H' σ Γ (Ωo ++ Ωr) := by
  have nd0 := c.nd
  rw [List.map_append, List.nodup_append] at nd0
  have dis : ∀ x, x ∈ Ωr → x.1 ∉ Ωi.map (·.1) := fun x hx hi => nd0.2.2 _ hi _ (List.mem_map.mpr ⟨x, hx, rfl⟩) rfl
  refine ⟨c.sat.mono e.fe, s, fun x hx => ?_, ?_, fun x hx => ?_, c.ext.transL e hw, c.pin.trans e.fe⟩
  · rcases List.mem_append.mp hx with hx | hx
    · exact o x hx
    · obtain ⟨h1, o', h2, h3⟩ := c.own x (List.mem_append_right _ hx)
      exact ⟨e.nw _ (by rw [h2]; exact fun z => by cases z) h1, o', e.fr _ _ h2 (dis x hx), x.2.mono e.fe h3⟩
  · rw [List.map_append, List.nodup_append]
    refine ⟨nd, nd0.2.1, fun a ha b hb z => ?_⟩
    subst z
    obtain ⟨x, hx, rfl⟩ := List.mem_map.mp hb
    rcases hn _ ha with l | l
    · exact dis x hx l
    · obtain ⟨_, o', h2, _⟩ := c.own x (List.mem_append_right _ hx)
      rw [l] at h2; cases h2
  · rcases List.mem_append.mp hx with hx | hx
    · rcases hn _ (List.mem_map.mpr ⟨x, hx, rfl⟩) with l | l
      · rcases hw _ l with l | l
        · exact .inl l
        · exact .inr (.inl l)
      · exact .inr (.inl (c.ext.dm _ l))
    · exact c.loc x (List.mem_append_right _ hx)
/-- a contract that changes, and may hand out new things as well -/
def CtG {α β : Type} (args : α → List As) (Oi : α → Om) (pre : α → Prop) (post : α → β → Prop) (res : α → β → As) (Oo : α → β → Om) : Sp := fun vs H Q _ =>
  ∃ a F, Same F H ∧ All F (args a) vs ∧ Own F H (Oi a) ∧ ((Oi a).map (·.1)).Nodup ∧ pre a ∧ ∀ b v F' H', post a b → Ext ((Oi a).map (·.1)) F H F' H' → Same F' H' → (res a b).p F' v → Own F' H' (Oo a b) → ((Oo a b).map (·.1)).Nodup → (∀ x ∈ (Oo a b).map (·.1), x ∈ (Oi a).map (·.1) ∨ H x = none) → Q v H'
theorem CtG.len {α β : Type} {args : α → List As} {Oi : α → Om} {pre : α → Prop} {post : α → β → Prop} {res : α → β → As} {Oo : α → β → Om} {n : Nat} (h : ∀ a, (args a).length = n) : ∀ vs H Q E, CtG args Oi pre post res Oo vs H Q E → vs.length = n := by
  rintro vs H Q E ⟨a, F, _, ha, _⟩
  rw [ha.length, h]
/-- an expression that changes what is owned -/
def EvM (Z : Bs) (Γ : Gm) (Ω : Om) (te : TE) (R : As) (Ω' : Om) : Prop := ∀ (F H : Hp) (σ : L2.St), Ctx Z F H σ Γ Ω → ∀ Q : VK, (∀ v F' H', Ctx Z F' H' σ Γ Ω' → Same F F' → R.p F' v → Q v H') → te σ H Q
theorem em_meth {α : Type} {args : α → List As} {Oi Oo : α → Om} {pre : α → Prop} {res : α → As} {t : TA} (a : α) (ho : Ev Γ Ω ta (Rf p)) (hm : Ω[j]? = some (p, oI C dx fs)) (hn : fs.lookup m = none) (h : EvA Γ Ω t Rs) (ha : args a = Rf p :: Rs) (hs : Ω.Perm (Oi a ++ Ωr)) (hp : pre a)
    (hoo : (Oo a).map (·.1) = (Oi a).map (·.1)) (hw : ∀ x ∈ (Oi a).map (·.1), Wr Z x) : EvM Z Γ Ω (tMeth C m (CtM args Oi pre res Oo) [] E ta t) (res a) (Oo a ++ Ωr) := fun F H σ c Q k =>
  ho Z F H σ c _ fun x F1 H1 c1 s1 rx => by
    cases rx
    obtain ⟨_, o, h2, vs, eo, hf⟩ := c1.own _ (List.mem_of_getElem? hm)
    subst eo
    refine ⟨p, dx, vs, rfl, h2, hf.none hn, h Z F1 H1 σ c1 _ fun ws F2 H2 c2 s2 rs => ?_⟩
    have cp := c2.perm hs
    have nd := cp.nd
    rw [List.map_append, List.nodup_append] at nd
    refine ⟨a, F2, c2.sub, ?_, cp.own.sub fun x hx => List.mem_append_left _ hx, nd.1, hp, fun v F3 H3 e3 s3 rv ow => k v F3 H3 (cp.changedG e3 s3 ow (by rw [hoo]; exact nd.1) (fun x hx => .inl (by rw [← hoo]; exact hx)) hw) ((s1.trans s2).fe.trans e3.fe) rv⟩
    rw [ha, List.append_nil]
    exact ⟨rfl, rs⟩
theorem em_set {i : Nat} (c : Ctx Z F H σ Γ Ω) (e : EvM Z Γ Ω te R Ω') (k : ∀ F' H' σ', Ctx Z F' H' σ' (Γ.set i (some R)) Ω' → Same F F' → n σ' H') : tAsg te (gName i) ⟨n, r, bk, ct⟩ σ H := e F H σ c _ fun v F1 H1 c1 s1 rv => k F1 H1 _ (c1.set i rv) s1
theorem em_asg {g : TG} {ws : List Nat} (c : Ctx Z F H σ Γ Ω) (e : EvM Z Γ Ω te R Ω') (hg : Gt Γ R g Γ' ws) (k : ∀ F' H' σ', Ctx Z F' H' σ' Γ' Ω' → Same F F' → n σ' H') : tAsg te g ⟨n, r, bk, ct⟩ σ H := e F H σ c _ fun v F1 H1 c1 s1 rv => hg Z F1 H1 σ v Ω' c1 rv _ fun σ' c2 _ => k F1 H1 σ' c2 s1
theorem em_drop (c : Ctx Z F H σ Γ Ω) (e : EvM Z Γ Ω te R Ω') (k : ∀ F' H', Ctx Z F' H' σ Γ Ω' → Same F F' → n σ H') : tDrop te ⟨n, r, bk, ct⟩ σ H := e F H σ c _ fun v F1 H1 c1 s1 rv => k F1 H1 c1 s1
theorem em_ret (c : Ctx Z F H σ Γ Ω) (e : EvM Z Γ Ω te R Ω') (k : ∀ v F' H', Ctx Z F' H' σ Γ Ω' → Same F F' → R.p F' v → r v H') : tRet te ⟨n, r, bk, ct⟩ σ H := e F H σ c _ k
/-- x.append(e), e changes what is owned (but not x) -/
theorem em_app {q : Addr} {j2 : Nat} (c : Ctx Z F H σ Γ Ω) (h : Ev Γ Ω ta (Rf q)) (hm : Ω[j]? = some (q, oL Rs)) (e : EvM Z Γ Ω te R Ω') (hm2 : Ω'[j2]? = some (q, oL Rs)) (hl : Rs.length ≤ 100000) (k : ∀ F' H', Ctx Z F' H' σ Γ (Ω'.set j2 (q, oL (Rs ++ [R]))) → Same F F' → n σ H') (hw : Wr Z q) :
    tDrop (tBM K "list" rAppend ta (tCons te tNil)) ⟨n, r, bk, ct⟩ σ H :=
  h Z F H σ c _ fun v F1 H1 c1 s1 rv => by
    cases rv
    obtain ⟨_, o, h2, xs, eo, hx⟩ := c1.own _ (List.mem_of_getElem? hm)
    refine ⟨.inl ⟨rfl, _, SqL.of (by rw [h2, eo])⟩, ?_⟩
    refine e F1 H1 σ c1 _ fun y F2 H2 c2 s2 ry => ?_
    obtain ⟨_, o, h2, xs, eo, hx⟩ := c2.own _ (List.mem_of_getElem? hm2)
    refine ⟨q, xs, y, rfl, rfl, by rw [h2, eo], ?_, ?_⟩
    · rw [hx.length]
      exact Nat.lt_of_le_of_lt hl (by decide)
    · exact k F2 _ (c2.chg hm2 ⟨_, rfl, hx.app ⟨ry, trivial⟩⟩ hw) (s1.fe.trans s2)
/-- x.extend(e), e changes what is owned (but not x) -/
theorem em_ext {q : Addr} {j2 : Nat} (c : Ctx Z F H σ Γ Ω) (h : Ev Γ Ω ta (Rf q)) (hm : Ω[j]? = some (q, oL Rs)) (e : EvM Z Γ Ω te (Lh Ss) Ω') (hm2 : Ω'[j2]? = some (q, oL Rs)) (hl : Rs.length + Ss.length ≤ 100000) (k : ∀ F' H', Ctx Z F' H' σ Γ (Ω'.set j2 (q, oL (Rs ++ Ss))) → Same F F' → n σ H') (hw : Wr Z q) :
    tDrop (tBM K "list" rExtend ta (tCons te tNil)) ⟨n, r, bk, ct⟩ σ H :=
  h Z F H σ c _ fun v F1 H1 c1 s1 rv => by
    cases rv
    obtain ⟨_, o, h2, xs, eo, hx⟩ := c1.own _ (List.mem_of_getElem? hm)
    refine ⟨.inl ⟨rfl, _, SqL.of (by rw [h2, eo])⟩, ?_⟩
    refine e F1 H1 σ c1 _ fun y F2 H2 c2 s2 ry => ?_
    obtain ⟨b, zs, ey, hb, hz⟩ := ry
    subst ey
    obtain ⟨_, o, h2, xs, eo, hx⟩ := c2.own _ (List.mem_of_getElem? hm2)
    refine ⟨q, b, xs, zs, rfl, rfl, by rw [h2, eo], c2.sub _ _ hb, ?_, ?_⟩
    · rw [hx.length, hz.length]
      exact Nat.le_trans hl (by decide)
    · exact k F2 _ (c2.chg hm2 ⟨_, rfl, hx.app hz⟩ hw) (s1.fe.trans s2)
/-- x + e, x owned, e changes what is owned (but not x); frozen -/
theorem em_cat {q : Addr} {j2 : Nat} (h : Ev Γ Ω ta (Rf q)) (hm2 : Ω'[j2]? = some (q, oL Rs)) (e : EvM Z Γ Ω tb (Lh Ss) Ω') (hl : Rs.length + Ss.length ≤ 100000) : EvM Z Γ Ω (tOp rCat ta tb) (Ls K (Rs ++ Ss)) Ω' := fun F H σ c Q k =>
  h Z F H σ c _ fun v F1 H1 c1 s1 rv => by
    cases rv
    refine e F1 H1 σ c1 _ fun y F2 H2 c2 s2 ry => ?_
    obtain ⟨b, zs, ey, hb, hz⟩ := ry
    subst ey
    obtain ⟨_, o, h2, xs, eo, hx⟩ := c2.own _ (List.mem_of_getElem? hm2)
    refine ⟨q, b, xs, zs, rfl, rfl, by rw [h2, eo], c2.sub _ _ hb, ?_, fun p hp => ?_⟩
    · rw [hx.length, hz.length]
      exact Nat.le_trans hl (by decide)
    · obtain ⟨e3, s3⟩ := Ext.new (o := .lst (xs ++ zs)) c2.sub hp
      exact k (.ref p) _ _ (c2.step e3 s3) (s1.fe.trans (s2.trans e3.fe)) ⟨p, xs ++ zs, rfl, SqL.of upd_same, (hx.app hz).mono e3.fe⟩
/-- x = C(e, ..): a new instance, and what it brought along -/
theorem st_makeG {α β : Type} {args : α → Addr → List As} {Oi : α × Addr × Addr → Om} {Oo : α × Addr × Addr → β → Om} {pre : α × Addr × Addr → Prop} {post : α × Addr × Addr → β → Prop} {res : α × Addr × Addr → β → As} {t : TA} {Q : VK} (a : α) (c : Ctx Z F H σ Γ Ω) (h : EvA Γ Ω t Rs) (ha : ∀ x, args a x = Rf x :: Rs) (hoi : ∀ x dx, Oi (a, x, dx) = [(x, oI C dx [])]) (hp : ∀ x dx, pre (a, x, dx)) (hr : ∀ x dx b F v, (res (a, x, dx) b).p F v → v = .non)
    (k : ∀ b x dx F' H', post (a, x, dx) b → Ctx Z F' H' σ Γ (Oo (a, x, dx) b ++ Ω) → Same F F' → (∀ y ∈ (Oo (a, x, dx) b).map (·.1), Z.H y = none) → Q (.ref x) H') : tMake C (CtG (fun b : α × Addr × Addr => args b.1 b.2.1) Oi pre post res Oo) [] E t σ H Q :=
  h Z F H σ c _ fun vs F1 H1 c1 s1 rs => by
    intro x dx hx hd hne
    have c2 := (c1.grow (p := dx) (o := .own x) (A := ⟨fun _ _ => True, fun _ h => h⟩) hd trivial).tail
    have hx2 : upd H1 dx (.own x) x = none := by rw [upd_ne (Ne.symm hne)]; exact hx
    have c3 := c2.grow (p := x) (o := .ins C dx []) (A := oI C dx []) hx2 ⟨[], rfl, trivial⟩
    have c3' : Ctx Z F1 (upd (upd H1 dx (.own x)) x (.ins C dx [])) σ Γ (Oi (a, x, dx) ++ Ω) := by rw [hoi]; exact c3
    have hzx : Z.H x = none := c1.ext.dm _ hx
    refine ⟨(a, x, dx), F1, c3.sub, ?_, c3'.own.sub fun y hy => List.mem_append_left _ hy, by rw [hoi]; simp, hp x dx, fun b v F3 H3 hb e3 s3 rv ow nd hn => ⟨hr x dx b _ _ rv, ?_⟩⟩
    · dsimp only
      rw [ha, List.append_nil]
      exact ⟨rfl, rs⟩
    · refine k b x dx F3 H3 hb (c3'.changedG e3 s3 ow nd hn (by rw [hoi]; intro y hy; rw [List.mem_singleton.mp hy]; exact .inr hzx)) (s1.fe.trans e3.fe) fun y hy => ?_
      rcases hn y hy with l | l
      · rw [hoi] at l; rw [List.mem_singleton.mp l]; exact hzx
      · exact c3.ext.dm _ l
/-- tests that change what is owned -/
def EvTM (Z : Bs) (Γ : Gm) (Ω : Om) (tt : TT) (b : Bool) (Ω' : Om) : Prop := ∀ (F H : Hp) (σ : L2.St), Ctx Z F H σ Γ Ω → ∀ Q : Bool → Hp → Prop, (∀ F' H', Ctx Z F' H' σ Γ Ω' → Same F F' → Q b H') → tt σ H Q
theorem em_op {r : R2} (ha : EvM Z Γ Ω ta Rx Ω') (hb : Ev Γ Ω' tb Ry) (hr : RV r Rx Ry R) : EvM Z Γ Ω (tOp r ta tb) R Ω' := fun F H σ c Q k =>
  ha F H σ c _ fun x F1 H1 c1 s1 rx => hb Z F1 H1 σ c1 _ fun y F2 H2 c2 s2 ry =>
    hr F2 H2 x y c2.sub (Rx.mono s2.fe rx) ry Q fun v F3 H3 e3 s3 rv => k v F3 H3 (c2.step e3 s3) (s1.trans (s2.fe.trans e3.fe)) rv
theorem em_is {R' : As} (h : EvM Z Γ Ω te R Ω') (e : R = R') : EvM Z Γ Ω te R' Ω' := e ▸ h
theorem em_of (h : Ev Γ Ω te R) : EvM Z Γ Ω te R Ω := fun F H σ c Q k => h Z F H σ c Q fun v F1 H1 c1 s1 rv => k v F1 H1 c1 s1.fe rv
theorem em_neK {α : Type} [DecidableEq α] {f : α → As} {d : α → PyData} {k : Nat} {x y : α} (h : Kd K f d k) (ha : EvM Z Γ Ω ta (f x) Ω') (hb : Ev Γ Ω' tb (f y)) (l : k ≤ 64 := by decide) : EvM Z Γ Ω (tOp (rNeD K) ta tb) (B (!decide (x = y))) Ω' :=
  em_is (em_op ha hb fun F H v w s rx ry Q q => ⟨d x, d y, (h.is x).dp F H v s rx, (h.is y).dp F H w s ry, (h.gd x).shaped l, (h.gd y).shaped l, q _ F H (Ext.refl _ _ _) s rfl⟩) (congrArg (fun b => B (!b)) (by rw [Bool.eq_iff_iff, h.eq, decide_eq_true_iff]))
theorem tm_test {b : Bool} (h : EvM Z Γ Ω te (B b) Ω') : EvTM Z Γ Ω (tTest te) b Ω' := fun F H σ c Q q => h F H σ c _ fun v F1 H1 c1 s1 r => ⟨b, r, q F1 H1 c1 s1⟩
theorem tm_B {b : Bool} (h : EvM Z Γ Ω te (B b) Ω') : EvTM Z Γ Ω (tB te) b Ω' := fun F H σ c Q q => h F H σ c _ fun v F1 H1 c1 s1 r => ⟨b, r, q F1 H1 c1 s1⟩
theorem tm_not {b : Bool} (h : EvTM Z Γ Ω tt b Ω') : EvTM Z Γ Ω (tNot tt) (!b) Ω' := fun F H σ c Q q => h F H σ c _ fun F1 H1 c1 s1 => q F1 H1 c1 s1
theorem tm_is {a b : Bool} (h : EvTM Z Γ Ω tt a Ω') (e : a = b) : EvTM Z Γ Ω tt b Ω' := e ▸ h
/-- a or b, a known to be False -/
theorem tm_or {tu : TT} {b : Bool} (h : EvT Γ Ω tt false) (h2 : EvTM Z Γ Ω tu b Ω') : EvTM Z Γ Ω (tOr tt tu) b Ω' := fun F H σ c Q q => h Z F H σ c _ fun F1 H1 c1 s1 => iteF (h2 F1 H1 σ c1 Q fun F2 H2 c2 s2 => q F2 H2 c2 (s1.fe.trans s2))
/-- a or b, a changes and is False -/
theorem tm_orM {tu : TT} {b : Bool} {Ω2 : Om} (h : EvTM Z Γ Ω tt false Ω') (h2 : EvTM Z Γ Ω' tu b Ω2) : EvTM Z Γ Ω (tOr tt tu) b Ω2 := fun F H σ c Q q => h F H σ c _ fun F1 H1 c1 s1 => iteF (h2 F1 H1 σ c1 Q fun F2 H2 c2 s2 => q F2 H2 c2 (s1.trans s2))
theorem tm_of {b : Bool} (h : EvT Γ Ω tt b) : EvTM Z Γ Ω tt b Ω := fun F H σ c Q q => h Z F H σ c Q fun F1 H1 c1 s1 => q F1 H1 c1 s1.fe
theorem tm_if {t1 t2 : TS} {b : Bool} (c : Ctx Z F H σ Γ Ω) (e : EvTM Z Γ Ω tt b Ω') (k1 : b = true → ∀ F' H', Ctx Z F' H' σ Γ Ω' → Same F F' → t1 ⟨n, r, bk, ct⟩ σ H') (k2 : b = false → ∀ F' H', Ctx Z F' H' σ Γ Ω' → Same F F' → t2 ⟨n, r, bk, ct⟩ σ H') : tIfS tt t1 t2 ⟨n, r, bk, ct⟩ σ H :=
  e F H σ c _ fun F1 H1 c1 s1 => by
    cases b with
    | true => exact iteT (k1 rfl F1 H1 c1 s1)
    | false => exact iteF (k2 rfl F1 H1 c1 s1)
/-- x = C(e, ..) -/
theorem st_makeGS {α β : Type} {i : Nat} {args : α → Addr → List As} {Oi : α × Addr × Addr → Om} {Oo : α × Addr × Addr → β → Om} {pre : α × Addr × Addr → Prop} {post : α × Addr × Addr → β → Prop} {res : α × Addr × Addr → β → As} {t : TA} (a : α) (c : Ctx Z F H σ Γ Ω) (h : EvA Γ Ω t Rs) (ha : ∀ x, args a x = Rf x :: Rs) (hoi : ∀ x dx, Oi (a, x, dx) = [(x, oI C dx [])]) (hp : ∀ x dx, pre (a, x, dx)) (hr : ∀ x dx b F v, (res (a, x, dx) b).p F v → v = .non)
    (k : ∀ b x dx F' H' σ', post (a, x, dx) b → Ctx Z F' H' σ' (Γ.set i (some (Rf x))) (Oo (a, x, dx) b ++ Ω) → Same F F' → (∀ y ∈ (Oo (a, x, dx) b).map (·.1), Z.H y = none) → n σ' H') : tAsg (tMake C (CtG (fun b : α × Addr × Addr => args b.1 b.2.1) Oi pre post res Oo) [] E t) (gName i) ⟨n, r, bk, ct⟩ σ H :=
  st_makeG a c h ha hoi hp hr fun b x dx F1 H1 hb c1 s1 hz => k b x dx F1 H1 _ hb (c1.set i rfl) s1 hz
end
theorem wr2 {Z : Bs} {p q : Addr} (h1 : Wr Z p) (h2 : Wr Z q) : ∀ x ∈ [p, q], Wr Z x := fun x hx => by
  rcases List.mem_cons.mp hx with z | z
  · rw [z]; exact h1
  · rw [List.mem_singleton.mp z]; exact h2
theorem wr1 {Z : Bs} {p : Addr} (h1 : Wr Z p) : ∀ x ∈ [p], Wr Z x := fun x hx => by
  rw [List.mem_singleton.mp hx]; exact h1
/-- for over a list that some family tells of -/
theorem st_forX {K : PySem.W.Frag} {Z : Bs} {F H : Hp} {σ : L2.St} {Γ : Gm} {Ω : Om} {tl : TE} {g : TG} {tb : TS} {D : Ends} {β : Type} {P : β → Prop} {Rb : β → As} (c : Ctx Z F H σ Γ Ω) (e : Ev Γ Ω tl (Xs P Rb)) (k : ∀ b v F' H', P b → Ctx Z F' H' σ Γ Ω → Same F F' → (Rb b).p F' v → tFor (iList K (fun _ H Q => Q v H)) g tb D σ H') : tFor (iList K tl) g tb D σ H :=
  e Z F H σ c _ fun v F1 H1 c1 s1 ⟨b, hb, rv⟩ => k b v F1 H1 hb c1 s1.fe rv
theorem st_forV {K : PySem.W.Frag} {Z : Bs} {F H : Hp} {σ : L2.St} {n : L2.St → Hp → Prop} {r : VK} {bk ct : L2.St → Hp → Prop} {ι α : Type} {v : V} {g : TG} {tb : TS} {xs : List α} {f : α → As} (G : ι → Gm) (G' : α → ι → Gm) (O : ι → Om) (P : Nat → ι → Prop) {ws : List Nat} (i0 : ι) (c : Ctx Z F H σ (G i0) (O i0)) (rv : (Ls K (xs.map f)).p F v) (p0 : P 0 i0)
    (hg : ∀ x i, Gt (G i) (f x) g (G' x i) ws)
    (body : ∀ k x i G1 F H σ (N : L2.St → Hp → Prop), xs[k]? = some x → P k i → Ctx (Z.pin G1) F H σ (G' x i) (O i) → (∀ j F' H' σ', P (k + 1) j → Ctx (Z.pin G1) F' H' σ' (G j) (O j) → N σ' H') → tb ⟨N, r, n, N⟩ σ H)
    (hd : ∀ i F H σ, P xs.length i → Ctx Z F H σ (G i) (O i) → n σ H) : tFor (iList K (fun _ H Q => Q v H)) g tb ⟨n, r, bk, ct⟩ σ H := by
  obtain ⟨a, ys, ea, hs, hl⟩ := rv
  have hlen : ys.length = xs.length := by rw [hl.length, List.length_map]
  refine ⟨a, ea, ⟨ys, c.sub.seq hs⟩, for_list (K := K) (a := a) (xs := ys) (fun k σ H => ∃ i F', P k i ∧ Ctx (Z.pin F) F' H σ (G i) (O i)) ⟨i0, F, p0, c.topin (Same.refl _)⟩ (fun k σ H _ ⟨i, F, _, cc⟩ => cc.sub.seq (cc.pin.seq hs)) ?_ ?_⟩
  · rintro k y σ H hy ⟨i, F', p, cc⟩
    have hk : k < xs.length := by rw [← hlen]; exact (List.getElem?_eq_some_iff.mp hy).1
    have hx : xs[k]? = some xs[k] := List.getElem?_eq_getElem hk
    have hz : (xs.map f)[k]? = some (f xs[k]) := by rw [List.getElem?_map, hx]; rfl
    obtain ⟨y', ey, ry⟩ := hl.get hz
    rw [hy] at ey
    cases ey
    refine hg xs[k] i (Z.pin F) F' H σ y (O i) cc ((f xs[k]).mono cc.pin ry) _ fun σ' c' _ => ?_
    exact body k xs[k] i F F' H σ' _ hx p c' fun j F'' H' σ'' pj cj => ⟨j, F'', pj, cj⟩
  · rintro σ H ⟨i, F', p, cc⟩
    rw [hlen] at p
    exact hd i F' H σ p (cc.unpin c.pin)
/-- a list against the list without items, where its items need not tell all -/
theorem ev_cmpNilD {K : PySem.W.Frag} {Γ : Gm} {Ω : Om} {ta : TE} {α : Type} {f : α → As} {d : α → PyData} {k : Nat} {xs : List α} (neg : Bool) (his : ∀ x, IsD K (f x) (d x)) (hgd : ∀ x, Gd k (d x)) (ha : Lk K Γ Ω ta (xs.map f)) (l : k ≤ 63 := by decide) : Ev Γ Ω (tOp (if neg then rNeD K else rEqD K) ta (tLst tNil)) (B (if neg then !xs.isEmpty else xs.isEmpty)) := fun Z F H σ c Q q =>
  ha Z F H σ c _ fun a F1 H1 c1 s1 hs => ⟨Nat.zero_le _, fun p hp => by
    obtain ⟨F2, H2, e, c2, s2, r⟩ := new_ls (K := K) (Rs := []) (xs := []) c1 trivial hp
    rw [← e]
    obtain ⟨ys, hs2, hl⟩ := hs F2 H2 c2 s2.fe
    have d1 : Dp K H2 (.ref a) (.list (xs.map d)) := .lst hs2 (dpall (alld_map his xs) c2.sub hl)
    have d2 : Dp K H2 (.ref p) (.list []) := by
      obtain ⟨p', zs, ep, hz, hzl⟩ := r
      cases ep
      exact .lst (c2.sub.seq hz) (dpall (Rs := []) (ds := []) trivial c2.sub hzl)
    have g1 : Gd (k + 1) (.list (xs.map d)) := gd_list fun d' hd => by
      obtain ⟨x, _, e⟩ := List.mem_map.mp hd
      subst e; exact hgd x
    have sh1 := g1.shaped (Nat.succ_le_succ l)
    have sh2 : SeqAt.shaped (.list []) = true := by decide
    have ee : PyData.eqv (.list (xs.map d)) (.list []) = xs.isEmpty := by
      cases xs <;> rfl
    cases neg with
    | true => exact ⟨_, _, d1, d2, sh1, sh2, by rw [ee]; exact q _ F2 H2 c2 (s1.trans s2) rfl⟩
    | false => exact ⟨_, _, d1, d2, sh1, sh2, by rw [ee]; exact q _ F2 H2 c2 (s1.trans s2) rfl⟩⟩
/-! ## dicts by whole numbers -/
def AllK (F : Hp) : List (Int × As) → List (Key × V) → Prop
  | [], [] => True
  | (k, R) :: l, (q, v) :: kvs => q = .inl k ∧ R.p F v ∧ AllK F l kvs
  | _, _ => False
theorem AllK.mono {F F' : Hp} (s : Same F F') : ∀ {l : List (Int × As)} {kvs : List (Key × V)}, AllK F l kvs → AllK F' l kvs
  | [], [], _ => trivial
  | (k, R) :: l, (q, v) :: kvs, h => ⟨h.1, R.mono s h.2.1, AllK.mono s h.2.2⟩
  | [], _ :: _, h => h.elim
  | _ :: _, [], h => h.elim
theorem AllK.length {F : Hp} : ∀ {l : List (Int × As)} {kvs : List (Key × V)}, AllK F l kvs → kvs.length = l.length
  | [], [], _ => rfl
  | (k, R) :: l, (q, v) :: kvs, h => congrArg (· + 1) (AllK.length h.2.2)
  | [], _ :: _, h => h.elim
  | _ :: _, [], h => h.elim
/-- what stands at k -/
def getD {β : Type} (k : Int) : List (Int × β) → Option β
  | [] => none
  | (i, y) :: l => if i = k then some y else getD k l
def hasD {β : Type} (k : Int) : List (Int × β) → Bool
  | [] => false
  | (i, _) :: l => decide (i = k) || hasD k l
def putD {β : Type} (l : List (Int × β)) (k : Int) (y : β) : List (Int × β) := if hasD k l then l.map fun p => if p.1 = k then (p.1, y) else p else l ++ [(k, y)]
theorem getD_map {β γ : Type} {g : β → γ} (k : Int) : ∀ l : List (Int × β), getD k (l.map fun p => (p.1, g p.2)) = (getD k l).map g
  | [] => rfl
  | (i, y) :: l => by
    show (if i = k then some (g y) else getD k (l.map fun p => (p.1, g p.2))) = (if i = k then some y else getD k l).map g
    split
    · rfl
    · exact getD_map k l
theorem hasD_map {β γ : Type} {g : β → γ} (k : Int) : ∀ l : List (Int × β), hasD k (l.map fun p => (p.1, g p.2)) = hasD k l
  | [] => rfl
  | (i, y) :: l => by
    show (decide (i = k) || hasD k (l.map fun p => (p.1, g p.2))) = (decide (i = k) || hasD k l)
    rw [hasD_map k l]
theorem putD_map {β γ : Type} {g : β → γ} {k : Int} {y : β} {l : List (Int × β)} : putD (l.map fun p => (p.1, g p.2)) k (g y) = (putD l k y).map fun p => (p.1, g p.2) := by
  unfold putD
  rw [hasD_map]
  split
  · rw [List.map_map, List.map_map]
    refine List.map_congr_left fun p _ => ?_
    simp only [Function.comp]
    split <;> rfl
  · rw [List.map_append]; rfl
theorem hasD_get {β : Type} (k : Int) : ∀ l : List (Int × β), hasD k l = (getD k l).isSome
  | [] => rfl
  | (i, y) :: l => by
    show (decide (i = k) || hasD k l) = (if i = k then some y else getD k l).isSome
    by_cases h : i = k
    · rw [if_pos h, decide_eq_true h]; rfl
    · rw [if_neg h, decide_eq_false h, hasD_get k l]; rfl
theorem getD_put {β : Type} {k j : Int} {y : β} : ∀ {l : List (Int × β)}, getD j (putD l k y) = if j = k then some y else getD j l := fun {l} => by
  have h1 : ∀ l : List (Int × β), getD j (l.map fun p => if p.1 = k then (p.1, y) else p) = if j = k then (getD j l).map (fun _ => y) else getD j l := fun l => by
    induction l with
    | nil => simp [getD]
    | cons p l ih =>
      obtain ⟨i, z⟩ := p
      rw [List.map_cons]
      by_cases h : i = k
      · rw [if_pos h]
        show (if i = j then some y else getD j _) = _
        rw [ih]
        by_cases hj : j = k
        · rw [if_pos hj, if_pos hj, if_pos (h.trans hj.symm)]
          show some y = (if i = j then some z else getD j l).map _
          rw [if_pos (h.trans hj.symm)]; rfl
        · have hij : ¬ i = j := fun e => hj (e.symm.trans h)
          rw [if_neg hj, if_neg hj, if_neg hij]
          show getD j l = if i = j then some z else getD j l
          rw [if_neg hij]
      · rw [if_neg h]
        show (if i = j then some z else getD j _) = _
        rw [ih]
        by_cases hj : j = k
        · have hij : ¬ i = j := fun e => h (e.trans hj)
          rw [if_neg hij, if_pos hj, if_pos hj]
          show _ = (if i = j then some z else getD j l).map _
          rw [if_neg hij]
        · rw [if_neg hj, if_neg hj]
          show _ = if i = j then some z else getD j l
          rfl
  have h2 : ∀ l : List (Int × β), getD j (l ++ [(k, y)]) = (getD j l).or (if k = j then some y else none) := fun l => by
    induction l with
    | nil => rfl
    | cons p l ih =>
      obtain ⟨i, z⟩ := p
      show (if i = j then some z else getD j (l ++ [(k, y)])) = (if i = j then some z else getD j l).or _
      split
      · rfl
      · exact ih
  unfold putD
  split
  · rename_i h
    rw [h1]
    split
    · rename_i e
      subst e
      rw [hasD_get] at h
      cases z : getD j l with
      | none => rw [z] at h; cases h
      | some x => rfl
    · rfl
  · rename_i h
    rw [h2]
    by_cases e : j = k
    · subst e
      have hn : getD j l = none := by
        rw [hasD_get] at h
        cases z : getD j l with
        | none => rfl
        | some x => rw [z] at h; exact absurd rfl h
      rw [hn]; simp
    · rw [if_neg (fun z => e z.symm), if_neg e, Option.or_none]
theorem AllK.get {F : Hp} {k : Int} : ∀ {l : List (Int × As)} {kvs : List (Key × V)}, AllK F l kvs → (∀ R, getD k l = some R → ∃ v, valV kvs (.inl k) = some v ∧ R.p F v) ∧ (getD k l = none → valV kvs (.inl k) = none)
  | [], [], _ => ⟨fun R h => (by cases h), fun _ => rfl⟩
  | (i, R0) :: l, (q, v) :: kvs, ⟨h1, h2, h3⟩ => by
    obtain ⟨g1, g2⟩ := AllK.get (k := k) h3
    subst h1
    by_cases e : i = k
    · subst e
      rw [valV_pos rfl]
      have e2 : getD i ((i, R0) :: l) = some R0 := if_pos rfl
      rw [e2]
      exact ⟨fun R h => by cases h; exact ⟨v, rfl, h2⟩, fun h => by cases h⟩
    · rw [valV_neg (fun z => e (Sum.inl.inj z))]
      have e2 : getD k ((i, R0) :: l) = getD k l := if_neg e
      rw [e2]
      exact ⟨g1, g2⟩
  | [], _ :: _, h => h.elim
  | _ :: _, [], h => h.elim
theorem AllK.has {F : Hp} {k : Int} : ∀ {l : List (Int × As)} {kvs : List (Key × V)}, AllK F l kvs → (kvs.any fun kv => decide (kv.1 = .inl k)) = hasD k l
  | [], [], _ => rfl
  | (i, R0) :: l, (q, v) :: kvs, ⟨h1, h2, h3⟩ => by
    subst h1
    show (decide (Sum.inl i = (Sum.inl k : Key)) || kvs.any _) = (decide (i = k) || hasD k l)
    rw [AllK.has h3]
    congr 1
    exact decide_eq_decide.mpr ⟨fun z => Sum.inl.inj z, fun z => by rw [z]⟩
  | [], _ :: _, h => h.elim
  | _ :: _, [], h => h.elim
theorem AllK.put {F : Hp} {k : Int} {R : As} {v : V} (q : R.p F v) {l : List (Int × As)} {kvs : List (Key × V)} (h : AllK F l kvs) : AllK F (putD l k R) (putK kvs (.inl k) v) := by
  have h1 : ∀ {l : List (Int × As)} {kvs : List (Key × V)}, AllK F l kvs → AllK F (l.map fun p => if p.1 = k then (p.1, R) else p) (kvs.map fun kv => if kv.1 = (.inl k : Key) then (kv.1, v) else kv) := fun {l} => by
    induction l with
    | nil =>
      intro kvs h
      cases kvs with
      | nil => exact trivial
      | cons _ _ => exact h.elim
    | cons p l ih =>
      intro kvs h
      cases kvs with
      | nil => exact h.elim
      | cons kv kvs =>
        obtain ⟨i, R0⟩ := p
        obtain ⟨a, w⟩ := kv
        obtain ⟨a1, a2, a3⟩ := h
        subst a1
        rw [List.map_cons, List.map_cons]
        by_cases e : i = k
        · rw [if_pos e, if_pos (by rw [e])]
          exact ⟨rfl, q, ih a3⟩
        · rw [if_neg e, if_neg (fun z => e (Sum.inl.inj z))]
          exact ⟨rfl, a2, ih a3⟩
  have h2 : ∀ {l : List (Int × As)} {kvs : List (Key × V)}, AllK F l kvs → AllK F (l ++ [(k, R)]) (kvs ++ [(.inl k, v)]) := fun {l} => by
    induction l with
    | nil =>
      intro kvs h
      cases kvs with
      | nil => exact ⟨rfl, q, trivial⟩
      | cons _ _ => exact h.elim
    | cons p l ih =>
      intro kvs h
      cases kvs with
      | nil => exact h.elim
      | cons kv kvs => exact ⟨h.1, h.2.1, ih h.2.2⟩
  unfold putD putK
  rw [h.has]
  split
  · exact h1 h
  · exact h2 h
theorem len_putD {β : Type} (l : List (Int × β)) (k : Int) (y : β) : (putD l k y).length ≤ l.length + 1 := by
  unfold putD
  split
  · rw [List.length_map]; omega
  · rw [List.length_append]; exact Nat.le_refl _
def oD (l : List (Int × As)) : OA := ⟨fun F o => ∃ kvs, o = .dK kvs ∧ AllK F l kvs, fun s h => by
  obtain ⟨kvs, e, q⟩ := h; exact ⟨kvs, e, q.mono s⟩⟩
/-- a dict that stands still -/
def Dc (l : List (Int × As)) : As := ⟨fun F v => ∃ a kvs, v = .ref a ∧ F a = some (.dK kvs) ∧ AllK F l kvs, fun s h => by
  obtain ⟨a, kvs, e, h1, h2⟩ := h; exact ⟨a, kvs, e, s _ _ h1, h2.mono s⟩⟩
section
variable {Z : Bs} {F H F' H' : Hp} {σ σ' : L2.St} {Γ Γ' : Gm} {Ω Ω' Ωr : Om} {K : PySem.W.Frag} {te ta tb tl tk tx : TE} {tt : TT} {R Rx Ry : As} {Rs Ss : List As} {n : L2.St → Hp → Prop} {r : VK} {bk ct : L2.St → Hp → Prop} {p C dx : Addr} {l : List (Int × As)} {f m : Str} {j : Nat} {E : XK} {A : OA}
/-- an expression whose value is a dict -/
def Dk (Γ : Gm) (Ω : Om) (te : TE) (l : List (Int × As)) : Prop := ∀ (Z : Bs) (F H : Hp) (σ : L2.St), Ctx Z F H σ Γ Ω → ∀ Q : VK, (∀ a F' H', Ctx Z F' H' σ Γ Ω → Ext [] F H F' H' → (∀ F2 H2, Ctx Z F2 H2 σ Γ Ω → Same F' F2 → ∃ kvs, H2 a = some (.dK kvs) ∧ AllK F2 l kvs) → Q (.ref a) H') → te σ H Q
theorem dk (h : Ev Γ Ω te (Dc l)) : Dk Γ Ω te l := fun Z F H σ c Q q => h Z F H σ c Q fun v F1 H1 c1 s1 rv => by
  obtain ⟨a, kvs, e, h1, h2⟩ := rv
  subst e
  exact q a F1 H1 c1 s1 fun F2 H2 c2 s2 => ⟨kvs, c2.sub _ _ (s2 _ _ h1), h2.mono s2⟩
theorem dko (h : Ev Γ Ω te (Rf p)) (hm : Ω[j]? = some (p, oD l)) : Dk Γ Ω te l := fun Z F H σ c Q q => h Z F H σ c Q fun v F1 H1 c1 s1 rv => by
  cases rv
  refine q p F1 H1 c1 s1 fun F2 H2 c2 s2 => ?_
  obtain ⟨_, o, h2, kvs, eo, hx⟩ := c2.own _ (List.mem_of_getElem? hm)
  subst eo
  exact ⟨kvs, h2, hx⟩
theorem eo_dnew : EvNw Γ Ω tDNewK (oD []) := fun Z F H σ c Q q p hp => q p F _ (c.grow (A := oD []) hp ⟨[], rfl, trivial⟩) (Ext.newH hp) hp
theorem ev_dget {i : Int} (ha : Dk Γ Ω ta l) (hb : Ev Γ Ω tb (I i)) (h : getD i l = some R) : Ev Γ Ω (tDGet ta tb) R := fun Z F H σ c Q q =>
  ha Z F H σ c _ fun a F1 H1 c1 s1 hd => hb Z F1 H1 σ c1 _ fun y F2 H2 c2 s2 ry => by
    cases ry
    obtain ⟨kvs, h1, h2⟩ := hd F2 H2 c2 s2.fe
    obtain ⟨v, h3, h4⟩ := (h2.get (k := i)).1 R h
    exact ⟨a, v, rfl, h3 ▸ DGet.k (k := .inl i) h1, q v F2 H2 c2 (s1.trans s2) h4⟩
theorem ev_din {i : Int} (hb : Ev Γ Ω tb (I i)) (ha : Dk Γ Ω ta l) : Ev Γ Ω (tDIn tb ta) (B (hasD i l)) := fun Z F H σ c Q q =>
  hb Z F H σ c _ fun y F1 H1 c1 s1 ry => ha Z F1 H1 σ c1 _ fun a F2 H2 c2 s2 hd => by
    cases ry
    obtain ⟨kvs, h1, h2⟩ := hd F2 H2 c2 (Same.refl _)
    refine ⟨a, valV kvs (.inl i), rfl, DGet.k (k := .inl i) h1, q _ F2 H2 c2 (s1.trans s2) ?_⟩
    rw [← valV_any, h2.has]; rfl
theorem ev_dnotin {i : Int} (hb : Ev Γ Ω tb (I i)) (ha : Dk Γ Ω ta l) : Ev Γ Ω (tDNotIn tb ta) (B (!hasD i l)) := fun Z F H σ c Q q =>
  hb Z F H σ c _ fun y F1 H1 c1 s1 ry => ha Z F1 H1 σ c1 _ fun a F2 H2 c2 s2 hd => by
    cases ry
    obtain ⟨kvs, h1, h2⟩ := hd F2 H2 c2 (Same.refl _)
    refine ⟨a, valV kvs (.inl i), rfl, DGet.k (k := .inl i) h1, q _ F2 H2 c2 (s1.trans s2) ?_⟩
    rw [← valV_any, h2.has]; rfl
/-- d.get(i, x) -/
theorem ev_dget2 {i : Int} {S : As} (ha : Dk Γ Ω ta l) (hb : Ev Γ Ω tb (I i)) (hx : Ev Γ Ω tx Rx) (h1 : ∀ R, getD i l = some R → ∀ F v, R.p F v → S.p F v) (h2 : getD i l = none → ∀ F v, Rx.p F v → S.p F v) : Ev Γ Ω (tDGet2 ta tb tx) S := fun Z F H σ c Q q =>
  ha Z F H σ c _ fun a F1 H1 c1 s1 hd => by
    obtain ⟨kvs, g1, g2⟩ := hd F1 H1 c1 (Same.refl _)
    refine ⟨a, rfl, .inl ⟨kvs, .inl g1⟩, hb Z F1 H1 σ c1 _ fun y F2 H2 c2 s2 ry => hx Z F2 H2 σ c2 _ fun x F3 H3 c3 s3 rx => ?_⟩
    cases ry
    obtain ⟨kvs, g1, g2⟩ := hd F3 H3 c3 (s2.trans s3).fe
    refine ⟨valV kvs (.inl i), DGet.k (k := .inl i) g1, q _ F3 H3 c3 (s1.trans (s2.trans s3)) ?_⟩
    cases e : getD i l with
    | none => rw [(g2.get (k := i)).2 e]; exact h2 e _ _ rx
    | some R =>
      obtain ⟨v, e3, e4⟩ := (g2.get (k := i)).1 R e
      rw [e3]; exact h1 R e _ _ e4
/-- d[i] = x, d owned -/
theorem st_dput {i : Int} (c : Ctx Z F H σ Γ Ω) (e : Ev Γ Ω te R) (ha : Ev Γ Ω ta (Rf p)) (hm : Ω[j]? = some (p, oD l)) (hb : Ev Γ Ω tb (I i)) (hl : l.length ≤ 10000000) (k : ∀ F' H', Ctx Z F' H' σ Γ (Ω.set j (p, oD (putD l i R))) → Same F F' → n σ H') (hw : Wr Z p) : sDPut ta tb te ⟨n, r, bk, ct⟩ σ H :=
  e Z F H σ c _ fun v F1 H1 c1 s1 rv => ha Z F1 H1 σ c1 _ fun x F2 H2 c2 s2 rx => hb Z F2 H2 σ c2 _ fun y F3 H3 c3 s3 ry => by
    cases rx
    cases ry
    obtain ⟨_, o, h2, kvs, eo, hx⟩ := c3.own _ (List.mem_of_getElem? hm)
    subst eo
    exact ⟨p, _, rfl, DPut.k (k := .inl i) h2 (by rw [hx.length]; exact Nat.lt_of_le_of_lt hl (by decide)), k F3 _ (c3.chg hm ⟨_, rfl, hx.put (R.mono (s2.trans s3).fe rv)⟩ hw) (s1.trans (s2.trans s3)).fe⟩
/-- a dict of one's own, frozen -/
theorem Ctx.frzD (c : Ctx Z F H σ Γ Ω) (hm : Ω[j]? = some (p, oD l)) (hzp : Z.H p = none) : ∃ F', Same F F' ∧ Ctx Z F' H σ Γ (Ω.eraseIdx j) ∧ (Dc l).p F' (.ref p) := by
  have hmem := List.mem_of_getElem? hm
  have hj : j < Ω.length := (List.getElem?_eq_some_iff.mp hm).1
  obtain ⟨hf, o0, h0, xs, e, hl⟩ := c.own _ hmem
  dsimp only at hf h0
  have s : Same F (upd F p (.dK xs)) := fun a u q => by rw [upd_ne (ne_of_none q hf)]; exact q
  have other : ∀ x ∈ Ω.eraseIdx j, x ∈ Ω ∧ x.1 ≠ p := fun x hx => by
    have hx' := List.mem_of_mem_eraseIdx hx
    refine ⟨hx', fun z => ?_⟩
    obtain ⟨i, hi⟩ := List.getElem?_of_mem hx
    rw [List.getElem?_eraseIdx] at hi
    split at hi
    · have a1 : (Ω.map (·.1))[i]? = some p := by rw [List.getElem?_map, hi, ← z]; rfl
      have a2 : (Ω.map (·.1))[j]? = some p := by rw [List.getElem?_map, hm]; rfl
      have := nd_ix c.nd a1 a2
      omega
    · have a1 : (Ω.map (·.1))[i + 1]? = some p := by rw [List.getElem?_map, hi, ← z]; rfl
      have a2 : (Ω.map (·.1))[j]? = some p := by rw [List.getElem?_map, hm]; rfl
      have := nd_ix c.nd a1 a2
      omega
  refine ⟨upd F p (.dK xs), s, ⟨c.sat.mono s, fun a u q => ?_, fun x hx => ?_, ((List.eraseIdx_sublist Ω j).map _).nodup c.nd, fun x hx => c.loc x (other x hx).1, ⟨c.ext.fe.trans s, c.ext.fr, c.ext.dm, fun a h1 h2 => ?_⟩, c.pin.trans s⟩, p, xs, rfl, upd_same, hl.mono s⟩
  · by_cases z : a = p
    · subst z
      rw [upd_same] at q
      rw [h0, e]
      exact q
    · rw [upd_ne z] at q
      exact c.sub a u q
  · obtain ⟨hx1, hx2⟩ := other x hx
    obtain ⟨h1, o', h2, h3⟩ := c.own x hx1
    exact ⟨by rw [upd_ne hx2]; exact h1, o', h2, x.2.mono s h3⟩
  · have z : a ≠ p := fun z => h1 (by rw [z]; exact hzp)
    rw [upd_ne z]
    exact c.ext.nw a h1 h2
theorem hu_of {k : Nat} {A : Around} (r : Room k A) : A.units + 1 < cLine := by have := r.units; omega
theorem hu65 {k : Nat} {A : Around} (r : Room k A) : A.units + 65 < cLine := by have := r.un; omega
theorem any_kd {α : Type} [DecidableEq α] {f : α → As} {d : α → PyData} {k : Nat} {x : α} (h : Kd K f d k) : ∀ xs : List α, ((xs.map d).any fun z => PyData.eqv z (d x)) = decide (x ∈ xs)
  | [] => by simp
  | y :: xs => by
    rw [List.map_cons, List.any_cons, any_kd h xs]
    by_cases e : y = x
    · have := (h.eq y x).mpr e
      rw [this, e]; simp
    · have : PyData.eqv (d y) (d x) = false := Bool.eq_false_iff.mpr fun z => e ((h.eq y x).mp z)
      rw [this]
      have e2 : ¬ x = y := fun z => e z.symm
      simp [e2]
/-- x in l, x not in l: by data -/
theorem ev_inK {α : Type} [DecidableEq α] {f : α → As} {d : α → PyData} {k : Nat} {x : α} {xs : List α} (h : Kd K f d k) (ha : Ev Γ Ω ta (f x)) (hb : Lk K Γ Ω tb (xs.map f)) (l : k ≤ 63 := by decide) : Ev Γ Ω (tOp (rInD K) ta tb) (B (decide (x ∈ xs))) := fun Z F H σ c Q q =>
  ha Z F H σ c _ fun v F1 H1 c1 s1 rv => hb Z F1 H1 σ c1 _ fun a F2 H2 c2 s2 hs => by
    obtain ⟨ys, hs2, hl⟩ := hs F2 H2 c2 (Same.refl _)
    have d1 : Dp K H2 (.ref a) (.list (xs.map d)) := .lst hs2 (dpall (alld_map h.is xs) c2.sub hl)
    have d2 := (h.is x).dp F2 H2 v c2.sub ((f x).mono s2.fe rv)
    exact ⟨d x, xs.map d, d2, d1, (h.gd x).shaped (Nat.le_succ_of_le l), ((kd_list h).gd xs).shaped (Nat.succ_le_succ l), q _ F2 H2 c2 (s1.trans s2) (by rw [any_kd h]; rfl)⟩
theorem ev_notInK {α : Type} [DecidableEq α] {f : α → As} {d : α → PyData} {k : Nat} {x : α} {xs : List α} (h : Kd K f d k) (ha : Ev Γ Ω ta (f x)) (hb : Lk K Γ Ω tb (xs.map f)) (l : k ≤ 63 := by decide) : Ev Γ Ω (tOp (rNotInD K) ta tb) (B (!decide (x ∈ xs))) := fun Z F H σ c Q q =>
  ha Z F H σ c _ fun v F1 H1 c1 s1 rv => hb Z F1 H1 σ c1 _ fun a F2 H2 c2 s2 hs => by
    obtain ⟨ys, hs2, hl⟩ := hs F2 H2 c2 (Same.refl _)
    have d1 : Dp K H2 (.ref a) (.list (xs.map d)) := .lst hs2 (dpall (alld_map h.is xs) c2.sub hl)
    have d2 := (h.is x).dp F2 H2 v c2.sub ((f x).mono s2.fe rv)
    exact ⟨d x, xs.map d, d2, d1, (h.gd x).shaped (Nat.le_succ_of_le l), ((kd_list h).gd xs).shaped (Nat.succ_le_succ l), q _ F2 H2 c2 (s1.trans s2) (by rw [any_kd h]; rfl)⟩
/-- d.setdefault(k, v) -/
theorem mt_setd {X : Cx} : MtR X "dict.setdefault" rSetd := by
  intro pins s σ H x xs v us Q I rx rv h
  obtain ⟨a, kvs, k, w, ex, rfl, ea, hl, w1, w2⟩ := h
  subst ex
  obtain rfl : v = Value.ref a := rx
  cases rv with
  | cons ry rv =>
    cases rv with
    | cons rd rv =>
      cases rv
      obtain ⟨z, hd, vs0, rel, dd⟩ := dk_of I.hok ea
      have dd2 := dd
      obtain ⟨o, es, ep, eo, exd, hdat, _⟩ := dd2
      have hz : vs0.length ≤ sizeLine := by rw [← rel.length]; exact z
      refine call_meetsIn PySem.F.slot_dict_setdefault dd.typeIs PySem.F.entry_dict_setdefault (PySem.F.args_dict_setdefault_3 _ _ _) (kt_meets_setdefault (mixKind X.prog X.w) _ (kV_is ry) hd _) ⟨vs0, dd, hz, fun u hu => ?_, fun hn h' dd' hs => ?_⟩
      · have rr := rel.val k
        rw [hu] at rr
        cases hv : valV kvs k with
        | none => rw [hv] at rr; exact False.elim rr
        | some y =>
          rw [hv] at rr
          exact (⟨y, H, I.tok _, rr, w1 y hv⟩ : EP X pins σ Q u _)
      · have rr := rel.val k
        rw [hn] at rr
        cases hv : valV kvs k with
        | some y => rw [hv] at rr; exact False.elim rr
        | none =>
          have hl2 : (putK kvs k w).length ≤ sizeLine := by have := length_putK kvs k w; omega
          exact (⟨w, _, d_write (t' := s.toks + 1) I (by rw [ea]; exact True.intro) hs (let ⟨q, _, _, hq, _⟩ := dd'; ⟨q, hq⟩) (dk_new hl2 hd (rel.put k rd) dd'), rd, w2 hv⟩ : EP X pins σ Q _ _)
/-- what stands there, or the new one -/
def setD {β : Type} (l : List (Int × β)) (k : Int) (y : β) : List (Int × β) := if hasD k l then l else l ++ [(k, y)]
theorem setD_map {β γ : Type} {g : β → γ} {k : Int} {y : β} {l : List (Int × β)} : setD (l.map fun p => (p.1, g p.2)) k (g y) = (setD l k y).map fun p => (p.1, g p.2) := by
  unfold setD
  rw [hasD_map]
  split
  · rfl
  · rw [List.map_append]; rfl
theorem setD_put {β : Type} {k : Int} {y : β} {l : List (Int × β)} (h : ¬ hasD k l = true) : setD l k y = putD l k y := by
  unfold setD putD
  rw [if_neg h, if_neg h]
theorem st_setd {i : Int} (c : Ctx Z F H σ Γ Ω) (ha : Ev Γ Ω ta (Rf p)) (hm : Ω[j]? = some (p, oD l)) (hb : Ev Γ Ω tb (I i)) (e : Ev Γ Ω te R) (hl : l.length ≤ 10000000) (k : ∀ F' H', Ctx Z F' H' σ Γ (Ω.set j (p, oD (setD l i R))) → Same F F' → n σ H') (hw : Wr Z p) :
    tDrop (tBM K "dict" rSetd ta (tCons tb (tCons te tNil))) ⟨n, r, bk, ct⟩ σ H :=
  ha Z F H σ c _ fun x F1 H1 c1 s1 rx => by
    cases rx
    obtain ⟨_, o, h2, kvs, eo, hx⟩ := c1.own _ (List.mem_of_getElem? hm)
    refine ⟨.inr (.inr (.inl ⟨rfl, .inl ⟨kvs, by rw [h2, eo]⟩⟩)), hb Z F1 H1 σ c1 _ fun y F2 H2 c2 s2 ry => e Z F2 H2 σ c2 _ fun v F3 H3 c3 s3 rv => ?_⟩
    cases ry
    obtain ⟨_, o, h2, kvs, eo, hx⟩ := c3.own _ (List.mem_of_getElem? hm)
    subst eo
    refine ⟨p, kvs, .inl i, v, rfl, rfl, h2, by rw [hx.length]; exact Nat.lt_of_le_of_lt hl (by decide), fun u hu => ?_, fun hn => ?_⟩
    · have hh : hasD i l = true := by rw [← hx.has, valV_any, hu]; rfl
      have e : setD l i R = l := by unfold setD; rw [if_pos hh]
      have hk := k F3 H3
      rw [e] at hk
      have hs : Ω.set j (p, oD l) = Ω := by
        refine List.ext_getElem? fun q => ?_
        rw [List.getElem?_set]
        split
        · rename_i z
          subst z
          rw [hm]
          split
          · rfl
          · rename_i z2
            exact absurd (List.getElem?_eq_some_iff.mp hm).1 z2
        · rfl
      rw [hs] at hk
      exact hk c3 (s1.trans (s2.trans s3)).fe
    · have hh : ¬ hasD i l = true := by rw [← hx.has, valV_any, hn]; exact Bool.false_ne_true
      have hk := k F3 (upd H3 p (.dK (putK kvs (.inl i) v)))
      rw [setD_put hh] at hk
      exact hk (c3.chg hm ⟨_, rfl, hx.put rv⟩ hw) (s1.trans (s2.trans s3)).fe
end
end Y

local macro_rules | `(tactic| walk_at "y") => `(tactic| first | assumption | trivial | decide +kernel | (exact ⟨by decide +kernel, by decide +kernel⟩) | omega | (dsimp only; omega) | (dsimp only; decide +kernel))
local macro_rules | `(tactic| walk_at "ty") => `(tactic| first | exact Y.ty_int | exact Y.ty_fq | exact Y.ty_fr | exact Y.ty_tup | exact Y.ty_lst | exact Y.ty_bool)
local macro_rules | `(tactic| walk_at "kd") => `(tactic| first | exact Y.kd_fq | exact Y.kd_list Y.kd_fq | exact Y.kd_int | exact Y.kd_list Y.kd_int | exact Y.kd_pair | exact Y.kd_list Y.kd_pair)
local macro_rules | `(tactic| walk_at "ls") => `(tactic| first | exact Y.cutA_to | exact Y.cutA_from | exact Y.cutA_rest | exact Y.cutA_most | exact List.map_reverse.symm | exact (List.map_nil).symm | rfl)
local macro_rules | `(tactic| walk_at "nev") => `(tactic| (intro x; first | exact Y.nev_tp | exact Y.nev_ls | exact Y.nev_c (fun z => nomatch z)))
local macro_rules | `(tactic| walk_at "sub") => `(tactic| first | exact List.Sublist.refl _ | exact List.Sublist.cons _ (List.Sublist.refl _) | exact List.Sublist.cons₂ _ (List.nil_sublist _) | exact List.nil_sublist _)

namespace Y
open PySem L2 PySem.Spec
open PyProof.Rows (envOfC)
open C8 (tCut pss_cut)
def top (i : Nat) : Stmt := PySem.Challenge.pw_sharewheel_k11_a_row_looked_over.main.body.getD i (.Pass ⟨0, 0, 0, 0⟩)
abbrev s_is_good : Stmt := top 10
theorem sc_is_good : FnScope ["piece", "earliest", "at", "who", "length", "share"] ["piece", "earliest"] (defScope s_is_good) := ⟨rfl, rfl, rfl, by decide +kernel, rfl, by decide +kernel, by decide +kernel⟩
abbrev s_checked : Stmt := top 11
theorem sc_checked : FnScope ["row", "earliest", "place", "piece"] ["row"] (defScope s_checked) := ⟨rfl, rfl, rfl, by decide +kernel, rfl, by decide +kernel, by decide +kernel⟩
abbrev s__law_cell_at : Stmt := top 13
theorem sc__law_cell_at : FnScope ["_law_script", "_law_k"] ["_law_script", "_law_k"] (defScope s__law_cell_at) := ⟨rfl, rfl, rfl, by decide +kernel, rfl, by decide +kernel, by decide +kernel⟩
abbrev s__law_mix : Stmt := top 14
theorem sc__law_mix : FnScope ["_law_cell", "_law_k", "_law_number"] ["_law_cell", "_law_k"] (defScope s__law_mix) := ⟨rfl, rfl, rfl, by decide +kernel, rfl, by decide +kernel, by decide +kernel⟩
abbrev s__law_piece : Stmt := top 15
theorem sc__law_piece : FnScope ["_law_cell", "_law_at", "_law_many"] ["_law_cell", "_law_at"] (defScope s__law_piece) := ⟨rfl, rfl, rfl, by decide +kernel, rfl, by decide +kernel, by decide +kernel⟩
abbrev s__law_spoiled : Stmt := top 16
theorem sc__law_spoiled : FnScope ["_law_piece_here", "_law_how", "_law_at", "_law_who", "_law_length", "_law_share"] ["_law_piece_here", "_law_how"] (defScope s__law_spoiled) := ⟨rfl, rfl, rfl, by decide +kernel, rfl, by decide +kernel, by decide +kernel⟩
abbrev s__law_row : Stmt := top 17
theorem sc__law_row : FnScope ["_law_script", "_law_first", "_law_at", "_law_row_here", "_law_cell", "_law_gap", "_law_piece_here"] ["_law_script"] (defScope s__law_row) := ⟨rfl, rfl, rfl, by decide +kernel, rfl, by decide +kernel, by decide +kernel⟩
abbrev s__law_bad : Stmt := top 18
theorem sc__law_bad : FnScope ["_law_row_here", "_law_ahead", "_law_place", "_law_piece_here", "_law_at", "_law_who", "_law_length", "_law_share"] ["_law_row_here"] (defScope s__law_bad) := ⟨rfl, rfl, rfl, by decide +kernel, rfl, by decide +kernel, by decide +kernel⟩
abbrev s__law_whole : Stmt := top 19
theorem sc__law_whole : FnScope ["_law_found"] ["_law_found"] (defScope s__law_whole) := ⟨rfl, rfl, rfl, by decide +kernel, rfl, by decide +kernel, by decide +kernel⟩
abbrev s__law_alike : Stmt := top 20
theorem sc__law_alike : FnScope ["_law_found", "_law_row_here", "_law_piece_here", "_law_number"] ["_law_found", "_law_row_here"] (defScope s__law_alike) := ⟨rfl, rfl, rfl, by decide +kernel, rfl, by decide +kernel, by decide +kernel⟩
abbrev s__law_by_any : Stmt := top 21
theorem sc__law_by_any : FnScope ["_law_row_here", "e"] ["_law_row_here"] (defScope s__law_by_any) := ⟨rfl, rfl, rfl, by decide +kernel, rfl, by decide +kernel, by decide +kernel⟩
abbrev s_law : Stmt := top 22
theorem sc_law : FnScope ["_law_script", "_law_row_here", "_law_due", "_law_handed", "_law_found", "_law_place", "e", "_law_again"] ["_law_script"] (defScope s_law) := ⟨rfl, rfl, rfl, by decide +kernel, rfl, by decide +kernel, by decide +kernel⟩
abbrev s_BadRow___init__ : Stmt := inClass (top 3) 0
theorem sc_BadRow___init__ : FnScope ["self", "place"] ["self", "place"] (defScope s_BadRow___init__) := ⟨rfl, rfl, rfl, by decide +kernel, rfl, by decide +kernel, by decide +kernel⟩
/-- what the text's top leaves -/
structure G (K : PySem.W.Frag) (mg : Str → Option Value) (C : Str → Addr) : Prop where
  b_ValueError : mg "ValueError" = none
  b_all : mg "all" = none
  b_bool : mg "bool" = none
  b_enumerate : mg "enumerate" = none
  b_int : mg "int" = none
  b_isinstance : mg "isinstance" = none
  b_len : mg "len" = none
  b_list : mg "list" = none
  b_max : mg "max" = none
  b_tuple : mg "tuple" = none
  g_GREATEST : ∃ t, mg "GREATEST" = some (.int 1000000 t)
  g_LATEST : ∃ t, mg "LATEST" = some (.int 1000000000000 t)
  g_MANY : ∃ t, mg "MANY" = some (.int 60 t)
  g_SENDERS : ∃ t, mg "SENDERS" = some (.int 12 t)
  h_BadRow : mg "BadRow" = some (.ref (C "BadRow"))
  h_NoLine : mg "NoLine" = some (.ref (C "NoLine"))
  h_Short : mg "Short" = some (.ref (C "Short"))
  h_WheelError : mg "WheelError" = some (.ref (C "WheelError"))
  d_BadRow___init__ : Te K mg (C "BadRow") "BadRow" "BadRow.__init__" s_BadRow___init__ ["self", "place"]
  m_BadRow_place : PySem.W.findIn K (.ref (C "BadRow")) "place" = some none
  f_BadRow : XfC K (C "BadRow")
  i_BadRow : ExcC K (C "BadRow")
  k_BadRow_BadRow : PySem.W.kitOne K (.ref (C "BadRow")) (.ref (C "BadRow")) = some true
  k_BadRow_NoLine : PySem.W.kitOne K (.ref (C "BadRow")) (.ref (C "NoLine")) = some false
  k_BadRow_Short : PySem.W.kitOne K (.ref (C "BadRow")) (.ref (C "Short")) = some false
  k_BadRow_ValueError : PySem.W.kitOne K (.ref (C "BadRow")) (.type "ValueError") = some true
  p_BadRow_BadRow : PySem.W.exmOne K (.ref (C "BadRow")) (.ref (C "BadRow")) = some true
  p_BadRow_WheelError : PySem.W.exmOne K (.ref (C "BadRow")) (.ref (C "WheelError")) = some true
  d_is_good : Tx K mg "is_good" s_is_good ["piece", "earliest"]
  d_checked : Tx K mg "checked" s_checked ["row"]
  d__law_cell_at : Tx K mg "_law_cell_at" s__law_cell_at ["_law_script", "_law_k"]
  d__law_mix : Tx K mg "_law_mix" s__law_mix ["_law_cell", "_law_k"]
  d__law_piece : Tx K mg "_law_piece" s__law_piece ["_law_cell", "_law_at"]
  d__law_spoiled : Tx K mg "_law_spoiled" s__law_spoiled ["_law_piece_here", "_law_how"]
  d__law_row : Tx K mg "_law_row" s__law_row ["_law_script"]
  d__law_bad : Tx K mg "_law_bad" s__law_bad ["_law_row_here"]
  d__law_whole : Tx K mg "_law_whole" s__law_whole ["_law_found"]
  d__law_alike : Tx K mg "_law_alike" s__law_alike ["_law_found", "_law_row_here"]
  d__law_by_any : Tx K mg "_law_by_any" s__law_by_any ["_law_row_here"]
  d_law : Tx K mg "law" s_law ["_law_script"]
def gP (p : Pie) (e : Int) : Prop := e ≤ p.1 ∧ p.1 ≤ 1000000000000 ∧ 0 ≤ p.2.1 ∧ p.2.1 < 12 ∧ 1 ≤ p.2.2.1 ∧ p.2.2.1 ≤ 1000000 ∧ 1 ≤ p.2.2.2 ∧ p.2.2.2 ≤ 1000000
instance (p : Pie) (e : Int) : Decidable (gP p e) := inferInstanceAs (Decidable (_ ∧ _))
/-- the first bad place -/
def fbad : Nat → Int → List Pie → Option Nat
  | _, _, [] => none
  | k, e, p :: r => if k < 60 ∧ gP p e then fbad (k + 1) p.1 r else some k
theorem fbad_step {k : Nat} {e : Int} {row : List Pie} {p : Pie} (h : row[k]? = some p) : fbad k e (row.drop k) = if k < 60 ∧ gP p e then fbad (k + 1) p.1 (row.drop (k + 1)) else some k := by
  obtain ⟨hk, ek⟩ := List.getElem?_eq_some_iff.mp h
  rw [List.drop_eq_getElem_cons hk, ek]; rfl
theorem fbad_le : ∀ (r : List Pie) (k : Nat) (e : Int) (d : Nat), fbad k e r = some d → k ≤ d ∧ d < k + r.length
  | [], k, e, d, h => by cases h
  | p :: r, k, e, d, h => by
    have h : (if k < 60 ∧ gP p e then fbad (k + 1) p.1 r else some k) = some d := h
    rw [List.length_cons]
    split at h
    · have := fbad_le r (k + 1) p.1 d h
      omega
    · cases h; omega
theorem fbad_take : ∀ (r : List Pie) (k : Nat) (e : Int) (d : Nat), fbad k e r = some d → fbad k e (r.take (d - k)) = none
  | [], k, e, d, h => by cases h
  | p :: r, k, e, d, h => by
    have h : (if k < 60 ∧ gP p e then fbad (k + 1) p.1 r else some k) = some d := h
    split at h
    · rename_i hc
      have hl := fbad_le r (k + 1) p.1 d h
      have ih := fbad_take r (k + 1) p.1 d h
      rw [show d - k = (d - (k + 1)) + 1 by omega, List.take_succ_cons]
      show (if k < 60 ∧ gP p e then fbad (k + 1) p.1 _ else some k) = none
      rw [if_pos hc]; exact ih
    · cases h
      rw [Nat.sub_self]; rfl
/-- hands out something new, or raises C with fields -/
def CtOX {α β : Type} (args : α → List As) (pre good : α → Prop) (post : α → β → Prop) (A : β → OA) (C : Addr) (xf : α → List (Str × As)) : Sp := fun vs H Q E =>
  ∃ a F, Same F H ∧ All F (args a) vs ∧ pre a ∧ (good a → ∀ b p F' H', post a b → Ext [] F H F' H' → Same F' H' → Own F' H' [(p, A b)] → H p = none → Q (.ref p) H') ∧
    (¬ good a → ∀ d F' H', Ext [] F H F' H' → Same F' H' → Own F' H' [(d, oXd (xf a))] → H d = none → E (.ref C) (some d) H')
theorem CtOX.len {α β : Type} {args : α → List As} {pre good : α → Prop} {post : α → β → Prop} {A : β → OA} {C : Addr} {xf : α → List (Str × As)} {n : Nat} (h : ∀ a, (args a).length = n) : ∀ vs H Q E, CtOX args pre good post A C xf vs H Q E → vs.length = n := by
  rintro vs H Q E ⟨a, F, _, ha, _⟩
  rw [ha.length, h]
section
variable {Z : Bs} {F H : Hp} {σ : L2.St} {Γ : Gm} {Ω : Om} {K : PySem.W.Frag} {C : Addr}
theorem cl_OX {α β : Type} {args : α → List As} {pre good : α → Prop} {post : α → β → Prop} {A : β → OA} {xf : α → List (Str × As)} {W : L2.St → XK} {ta : TA} {Q : VK} (a : α) (c : Ctx Z F H σ Γ Ω) (h : EvA Γ Ω ta (args a)) (hp : pre a)
    (k1 : good a → ∀ b p F' H', post a b → Ctx Z F' H' σ Γ ((p, A b) :: Ω) → Same F F' → Q (.ref p) H') (k2 : ¬ good a → ∀ d F' H', Ctx Z F' H' σ Γ ((d, oXd (xf a)) :: Ω) → Same F F' → W σ (.ref C) (some d) H') : tCallS (CtOX args pre good post A C xf) W ta σ H Q :=
  h Z F H σ c _ fun vs F1 H1 c1 s1 rs => ⟨a, F1, c1.sub, rs, hp, fun g b p F2 H2 hb e2 s2 o hn => k1 g b p F2 H2 hb (c1.add e2 s2 o hn) (s1.fe.trans e2.fe), fun g d F2 H2 e2 s2 o hd => k2 g d F2 H2 (c1.add e2 s2 o hd) (s1.fe.trans e2.fe)⟩
theorem nw_callX {α β : Type} {args : α → List As} {pre good : α → Prop} {post : α → β → Prop} {A : β → OA} {xf : α → List (Str × As)} {E : XK} {ta : TA} {B0 : OA} (a : α) (h : EvA Γ Ω ta (args a)) (hp : pre a) (hg : good a) (hb : ∀ b, post a b → A b = B0) : EvNw Γ Ω (tCall (CtOX args pre good post A C xf) [] E ta) B0 := fun Z F H σ c Q q =>
  h Z F H σ c _ fun vs F1 H1 c1 s1 rs => ⟨a, F1, c1.sub, by rw [List.append_nil]; exact rs, hp, fun _ b p F2 H2 hpb e2 s2 o hn => by
    have o' : Own F2 H2 [(p, B0)] := by rw [← hb b hpb]; exact o
    exact q p F2 H2 (c1.add e2 s2 o' hn) (s1.trans e2) (s1.dm _ hn), fun n => absurd hg n⟩
theorem ev_lsth {ta : TA} {Rs : List As} (h : EvA Γ Ω ta Rs) (hl : Rs.length ≤ 1000 := by decide) : Ev Γ Ω (tLst ta) (Lh Rs) := fun Z F H σ c Q q =>
  h Z F H σ c _ fun vs F1 H1 c1 s1 rs => ⟨by rw [rs.length]; exact Nat.le_of_lt (small1000 hl), fun p hp => by
    obtain ⟨e, s⟩ := Ext.new (o := .lst vs) c1.sub hp
    exact q (.ref p) _ _ (c1.step e s) (s1.trans e) ⟨p, vs, rfl, upd_same, rs.mono e.fe⟩⟩
theorem all_rep {F : Hp} {R : As} {v : V} (h : R.p F v) : ∀ n : Nat, All F (List.replicate n R) (List.replicate n [v]).flatten
  | 0 => trivial
  | n + 1 => ⟨h, all_rep h n⟩
theorem ev_rep1 {ta tb : TE} {R : As} {k : Int} (ha : Ev Γ Ω ta (Lh [R])) (hb : Ev Γ Ω tb (I k)) (h0 : 0 ≤ k) (h1 : k ≤ 1000) : Ev Γ Ω (tOp rRep ta tb) (Lh (List.replicate k.toNat R)) := ev_op ha hb fun F H x y s rx e Q q => by
  cases e
  obtain ⟨a, xs, ex, h2, h3⟩ := rx
  subst ex
  obtain ⟨v, ev, rv⟩ := h3.one
  subst ev
  refine ⟨a, k, [v], rfl, rfl, s a _ h2, by omega, by omega, ?_, fun p hp => ?_⟩
  · have : (([v] : List V).length * k.toNat) ≤ 1000 := by rw [List.length_singleton]; omega
    exact Nat.le_trans this (by decide)
  · obtain ⟨e, s2⟩ := Ext.new (o := .lst (List.replicate k.toNat [v]).flatten) s hp
    exact q (.ref p) _ _ e s2 ⟨p, _, rfl, upd_same, (all_rep rv _).mono e.fe⟩
theorem ints_any {F F2 : Hp} : ∀ {ns : List Int} {ys : List V}, All F (ns.map fun n => I n) ys → All F2 (ns.map fun n => I n) ys
  | [], [], _ => trivial
  | [], _ :: _, h => h.elim
  | _ :: _, [], h => h.elim
  | _ :: _, _ :: _, h => ⟨h.1, ints_any h.2⟩
/-- an owned list of pieces, told as it stands to a def that hands out a new one -/
theorem nw_peekX {p : Addr} {i j : Nat} {row : List Pie} {pre good : List Pie → Prop} {xf : List Pie → List (Str × As)} {E : XK} (hm : Ω[j]? = some (p, oL (row.map (Pc K)))) (hi : Γ[i]? = some (some (Rf p))) (hp : pre row) (hg : good row) : EvNw Γ Ω (tCall (CtOX (fun a : List Pie => [Ls K (a.map (Pc K))]) pre good (fun a b => b = a) (fun b : List Pie => oL (b.map (Pc K))) C xf) [] E (tCons (tVar i) tNil)) (oL (row.map (Pc K))) := fun Z F H σ c Q q => by
  obtain ⟨h1, o, h2, xs, eo, hx⟩ := c.own _ (List.mem_of_getElem? hm)
  subst eo
  dsimp only at h1 h2
  obtain ⟨v, e1, e2⟩ := c.sat.get hi
  have e2 : v = .ref p := e2
  subst e2
  have s : Same F (upd F p (.lst xs)) := fun a u z => by rw [upd_ne (ne_of_none z h1)]; exact z
  have hsub : Same (upd F p (.lst xs)) H := fun a u z => by
    by_cases e : a = p
    · rw [e] at z ⊢; rw [upd_same] at z; rw [← z]; exact h2
    · rw [upd_ne e] at z; exact c.sub a u z
  refine ⟨.ref p, e1, row, upd F p (.lst xs), hsub, ⟨⟨p, xs, rfl, SqL.of upd_same, hx.mono s⟩, trivial⟩, hp, fun _ b t F' H' hb ex s' o hn => ?_, fun n => absurd hg n⟩
  subst hb
  have hFp : F' p = some (.lst xs) := ex.fe p _ upd_same
  have drop : ∀ {a : Addr} {u : HO}, F' a = some u → a ≠ p → (fun x => if x = p then none else F' x) a = some u := fun z n => by
    show (if _ = p then none else F' _) = _
    rw [if_neg n]; exact z
  have ex2 : Ext [] F H (fun x => if x = p then none else F' x) H' := by
    refine ⟨fun a u z => drop (ex.fe a u (s a u z)) (ne_of_none z h1), ex.fr, ex.dm, fun a hne hF => ?_⟩
    show (if a = p then none else F' a) = none
    by_cases w : a = p
    · rw [if_pos w]
    · rw [if_neg w]
      exact ex.nw a hne (by rw [upd_ne w]; exact hF)
  have ss : Same (fun x => if x = p then none else F' x) H' := fun a u z => by
    have z : (if a = p then none else F' a) = some u := z
    by_cases w : a = p
    · rw [if_pos w] at z; cases z
    · rw [if_neg w] at z; exact s' a u z
  have pcs : ∀ {r : Pie} {v : V}, (Pc K r).p F' v → (Pc K r).p (fun x => if x = p then none else F' x) v := fun {r v} hr => by
    obtain ⟨a, ys, ea, hs, hl⟩ := hr
    refine ⟨a, ys, ea, ?_, ?_⟩
    · rcases hs with z | z
      · refine .inl ?_
        have hne : a ≠ p := fun w => by
          rw [w] at z
          rcases z with z | ⟨_, z⟩ <;> (rw [hFp] at z; cases z)
        rcases z with z | ⟨ob, z⟩
        · exact .inl (drop z hne)
        · exact .inr ⟨ob, drop z hne⟩
      · exact .inr z
    · exact ints_any (ns := [r.1, r.2.1, r.2.2.1, r.2.2.2]) hl
  have alls : ∀ {l : List Pie} {ys : List V}, All F' (l.map (Pc K)) ys → All (fun x => if x = p then none else F' x) (l.map (Pc K)) ys := fun {l} => by
    induction l with
    | nil => intro ys h; cases ys with
      | nil => trivial
      | cons y ys => exact h.elim
    | cons r l ih => intro ys h; cases ys with
      | nil => exact h.elim
      | cons y ys => exact ⟨pcs h.1, ih h.2⟩
  have o2 : Own (fun x => if x = p then none else F' x) H' [(t, oL (b.map (Pc K)))] := fun x hx => by
    rw [List.mem_singleton.mp hx]
    obtain ⟨w1, ob, w2, ys, w3, w4⟩ := o _ List.mem_cons_self
    refine ⟨?_, ob, w2, ys, w3, alls w4⟩
    show (if t = p then none else F' t) = none
    split
    · rfl
    · exact w1
  exact q t _ H' (c.add ex2 ss o2 hn) ex2 hn
theorem cutN {α : Type} {t : TS} {D : Ends} (_c : Ctx Z F H σ Γ Ω) (Gf : α → Gm) (Of : α → Om) (P : α → Prop) (hb : (∀ o F H σ, P o → Ctx Z F H σ (Gf o) (Of o) → D.nx σ H) → t D σ H) (rest : ∀ o F H σ, P o → Ctx Z F H σ (Gf o) (Of o) → D.nx σ H) : t D σ H := hb rest
def dO : Option Int → PyData
  | none => .none
  | some n => .int n
theorem kdO {K : PySem.W.Frag} : Kd K (Op fun n : Int => I n) dO 0 := ⟨fun o => by cases o with
    | none => exact isd_non
    | some n => exact isd_int, fun o => by cases o with
    | none => exact ⟨rfl, Nat.le_refl _⟩
    | some n => exact gd_int, fun x y => by cases x <;> cases y <;> simp [dO, PyData.eqv]⟩
theorem atI_last {α : Type} {f : α → As} {l : List α} {x : α} : atI ((l ++ [x]).map f) (-1) = some (f x) := by
  have e : ixN (l.length + 1) (-1) = some l.length := by unfold ixN; rw [if_neg (by decide), if_pos (by omega)]; congr 1; omega
  unfold atI
  rw [List.length_map, List.length_append, List.length_singleton, e, List.map_append]
  show (l.map f ++ [f x])[l.length]? = _
  rw [List.getElem?_append_right (by rw [List.length_map]; exact Nat.le_refl _), List.length_map, Nat.sub_self]; rfl
theorem atI_4i (a b c d k : Int) (h0 : 0 ≤ k) (h1 : k < 4) : atI [I a, I b, I c, I d] k = some (I (if k = 0 then a else if k = 1 then b else if k = 2 then c else d)) := by
  have := atI_four a b c d k
  rwa [Int.emod_eq_of_lt h0 h1] at this
theorem atI_3i (a b c k : Int) (h0 : 0 ≤ k) (h1 : k < 3) : atI [I a, I b, I c] k = some (I (if k = 0 then a else if k = 1 then b else c)) := by
  have := atI_three a b c k
  rwa [Int.emod_eq_of_lt h0 h1] at this
theorem ev_notNN {ta : TE} (ha : Ev Γ Ω ta Nn) : Ev Γ Ω (tOp (fun x y H Q => y = .non ∧ Q (.bl (!decide (x = .non))) H) ta (tC .non)) (B false) := ev_notNO (α := Unit) (R := fun _ => B true) (o := none) (fun _ => nev_c (fun z => nomatch z)) ha
theorem nev_I (n : Int) : Nev (I n) := nev_c (fun z => nomatch z)
end
abbrev bdO (row : List Pie) : Option Int := (fbad 0 0 row).map fun k => (k : Int)

section
variable {P : Program} {w : World} {K : PySem.W.Frag} {mg : Str → Option Value} {base : Heap} {C : Str → Addr}
theorem ok_BadRow___init__ (T : G K mg C) : De P w K mg base 1 (C "BadRow") ["self", "place"] (spX1 K (C "BadRow") "place") :=
  T.d_BadRow___init__.ok sc_BadRow___init__ spX1_len (fun f cdv A outer s H vs Q E hr h => ⟨_, pss_one (ps_ost (pv 0) (pv 1)), x1_body h (fun _ _ q => q)⟩)
def sp_is_good (K : PySem.W.Frag) (C : Str → Addr) : Sp := CtF (fun a : Pie × Int => [Pc K a.1, I a.2]) (fun _ => True) (fun a => B (decide (gP a.1 a.2)))
theorem ok_is_good (T : G K mg C)  : Dn P w K mg base 1 "is_good" ["piece", "earliest"] (sp_is_good K C) := by
  refine T.d_is_good.ok sc_is_good (by first | exact CtF.len (fun _ => rfl) | exact CtE.len (fun _ => rfl) | exact CtR.len (fun _ => rfl) | exact CtM.len (fun _ => rfl) | exact CtO.len (fun _ => rfl) | exact CtX.len (fun _ => rfl) | exact CtMX.len (fun _ => rfl) | exact CtME.len (fun _ => rfl) | exact CtG.len (fun _ => rfl) | exact CtOX.len (fun _ => rfl) | exact sp_is_good_len) (fun f cdv A outer s H vs Q E hr h => ?_)
  obtain ⟨⟨⟨at', who, len, sh⟩, e⟩, F, sFH, ha, hp, hq⟩ := h
  have c := ctx_start (N := ["piece", "earliest", "at", "who", "length", "share"]) sFH ha
  dsimp only at hq
  refine ⟨_, (pss_cons (ps_asg (pv 0) (show PG _ _ (gTup K 4 _) from pg_tup rfl (pgs_cons (pg_name (i := 2) sc_is_good.nd rfl (by first | exact Or.inl rfl | exact Or.inr rfl)) (pgs_cons (pg_name (i := 3) sc_is_good.nd rfl (by first | exact Or.inl rfl | exact Or.inr rfl)) (pgs_cons (pg_name (i := 4) sc_is_good.nd rfl (by first | exact Or.inl rfl | exact Or.inr rfl)) (pgs_cons (pg_name (i := 5) sc_is_good.nd rfl (by first | exact Or.inl rfl | exact Or.inr rfl)) pgs_nil))))))
    (pss_cons (ps_if (PW.pt (pw_or (pt_cmpR op_lt (pv 2) (pv 1) (nomark _)) (pw_or (pt_cmpR op_gt (pv 2) (pe_glob (v := .int 1000000000000) (by rfl) T.g_LATEST.choose_spec ⟨_, rfl⟩) (nomark _)) (pw_or (pt_cmpR op_lt (pv 3) pe_int (nomark _)) (pw_or1 (pt_cmpR op_ge (pv 3) (pe_glob (v := .int 12) (by rfl) T.g_SENDERS.choose_spec ⟨_, rfl⟩) (nomark _)))))))
      (pss_one (ps_ret pe_bl))
      pss_nil)
    (pss_one (ps_ret (pe_and (pe_chain op_le op_le pe_int (pv 4) (pe_glob (v := .int 1000000) (by rfl) T.g_GREATEST.choose_spec ⟨_, rfl⟩)) (pe_one (pe_chain op_le op_le pe_int (pv 5) (pe_glob (v := .int 1000000) (by rfl) T.g_GREATEST.choose_spec ⟨_, rfl⟩)))))))), ?_⟩
  refine sq (st_asg (R := Pc K (at', who, len, sh)) c (ev_var rfl) (gt_tup (gts_cons gt_name (gts_cons gt_name (gts_cons gt_name (gts_cons gt_name gts_nil))))) (fun F H σ c _ => ?_))
  refine sq (st_if c (et_or (et_test (ev_I0 (ev_var rfl) (ev_var rfl))) (fun hb => (et_or (et_test (ev_I0 (ev_var rfl) ev_c)) (fun hb => (et_or (et_test (ev_I0 (ev_var rfl) ev_c)) (fun hb => (et_test (ev_I0 (ev_var rfl) ev_c)))))))) (fun hb F H c _ => ?_) (fun hb F H c _ => ?_))
  · have hk : ¬ gP (at', who, len, sh) e := by
      unfold gP
      simp at hb
      dsimp only
      omega
    rw [decide_eq_false hk] at hq
    refine st_ret c ev_c (fun v F' H' c _ r => hq v F' H' c.ext c.sub ?_)
    exact r
  · refine nxt ?_
    have hk : gP (at', who, len, sh) e ↔ (1 ≤ len ∧ len ≤ 1000000) ∧ (1 ≤ sh ∧ sh ≤ 1000000) := by
      unfold gP
      simp at hb
      dsimp only
      omega
    refine st_ret c (ev_andV (ev_chain ev_c (ev_var rfl) ev_c) (fun hb => (ev_chain ev_c (ev_var rfl) ev_c))) (fun v F' H' c _ r => hq v F' H' c.ext c.sub ?_)
    have e2 : decide (gP (at', who, len, sh) e) = ((decide (1 ≤ len) && decide (len ≤ 1000000)) && (decide (1 ≤ sh) && decide (sh ≤ 1000000))) := by
      rw [Bool.eq_iff_iff]
      simp only [decide_eq_true_eq, Bool.and_eq_true]
      exact hk
    rw [e2]
    exact r
def sp_checked (K : PySem.W.Frag) (C : Str → Addr) : Sp := CtOX (fun a : List Pie => [Ls K (a.map (Pc K))]) (fun a => a.length ≤ 1000) (fun a => fbad 0 0 a = none) (fun a b => b = a) (fun b : List Pie => oL (b.map (Pc K))) (C "BadRow") (fun a => [("place", I ((bdO a).getD 0))])
theorem ok_checked (T : G K mg C) (D_is_good : Dn P w K mg base 1 "is_good" ["piece", "earliest"] (sp_is_good K C)) (D_BadRow___init__ : De P w K mg base 1 (C "BadRow") ["self", "place"] (spX1 K (C "BadRow") "place")) : Dn P w K mg base 3 "checked" ["row"] (sp_checked K C) := by
  refine T.d_checked.okX sc_checked (by first | exact CtF.len (fun _ => rfl) | exact CtE.len (fun _ => rfl) | exact CtR.len (fun _ => rfl) | exact CtM.len (fun _ => rfl) | exact CtO.len (fun _ => rfl) | exact CtX.len (fun _ => rfl) | exact CtMX.len (fun _ => rfl) | exact CtME.len (fun _ => rfl) | exact CtG.len (fun _ => rfl) | exact CtOX.len (fun _ => rfl) | exact sp_checked_len) (fun f cdv A outer s H vs Q E hr h => ?_)
  obtain ⟨row, F, sFH, ha, hln, hq, hx⟩ := h
  have c := ctx_start (N := ["row", "earliest", "place", "piece"]) sFH ha
  dsimp only at hln hq hx
  refine ⟨_, (pss_cons (ps_set (i := 1) sc_checked.nd rfl (by first | exact Or.inl rfl | exact Or.inr rfl) pe_int)
    (pss_cons (ps_for (by passes_own) rfl (pi_enum (by rfl) T.b_enumerate (pa_cons (pv 0) pa_nil)) (show PG _ _ (gTup K 2 _) from pg_tup rfl (pgs_cons (pg_name (i := 2) sc_checked.nd rfl (by first | exact Or.inl rfl | exact Or.inr rfl)) (pgs_cons (pg_name (i := 3) sc_checked.nd rfl (by first | exact Or.inl rfl | exact Or.inr rfl)) pgs_nil)))
      (pss_cons (ps_if (PW.pt (pw_or (pt_cmpR op_ge (pv 2) (pe_glob (v := .int 60) (by rfl) T.g_MANY.choose_spec ⟨_, rfl⟩) (nomark _)) (pw_or1 (pt_not (pt_val (pe_d D_is_good (hr.mono (by decide)) (by rfl) (pa_cons (pv 3) (pa_cons (pv 1) pa_nil))))))))
        (pss_one (ps_raise rfl (takes_of rfl rfl rfl rfl) (pmk_de T.d_BadRow___init__ D_BadRow___init__ (hr.mono (by decide)) (by rfl) (pa_cons (pv 2) pa_nil))))
        pss_nil)
      (pss_one (ps_set (i := 1) sc_checked.nd rfl (by first | exact Or.inl rfl | exact Or.inr rfl) (pe_ix (show IxR _ (rIxT K) from ix_tup) (pv 3) pe_int (fun _ _ => rfl))))))
    (pss_one (ps_ret (pe_callTy call_list_of (by rfl) T.b_list (by decide +kernel) (pa_cons (pv 0) pa_nil)))))), ?_⟩
  refine sq (st_set c ev_c (fun F H σ c _ => ?_))
  refine sq (st_forS (xs := row.zipIdx) (f := Et K (Pc K)) (fun i : Int × Option As × Option As => [some (Ls K (row.map (Pc K))), some (I i.1), i.2.1, i.2.2]) (fun y i => [some (Ls K (row.map (Pc K))), some (I i.1), some (I (y.2 : Int)), some (Pc K y.1)]) (fun _ => []) (fun j i => fbad j i.1 (row.drop j) = fbad 0 0 row) (0, none, none) c (src_e (ea_cons (ev_var rfl) ea_nil)) rfl (fun x i => gt_tup (gts_cons gt_name (gts_cons gt_name gts_nil))) ?_ ?_)
  · rintro j ⟨p, w⟩ ⟨e, o1, o2⟩ G1 F H σ M hk hf c hM
    dsimp only at hf c
    rw [List.getElem?_zipIdx] at hk
    obtain ⟨p', hp', es⟩ := Option.map_eq_some_iff.mp hk
    have es1 : p' = p := congrArg Prod.fst es
    have ew : 0 + j = w := congrArg Prod.snd es
    have ew : j = w := by omega
    subst es1 ew
    rw [fbad_step hp'] at hf
    refine sq (st_if c (et_or (et_test (ev_I0 (ev_var rfl) ev_c)) (fun hb => (et_not (et_B (ev_call (_, _) (ea_cons (ev_var rfl) (ea_cons (ev_var rfl) ea_nil)) (by exact trivial)))))) (fun hb F H c _ => ?_) (fun hb F H c _ => ?_))
    · have hc : ¬ (j < 60 ∧ gP p' e) := by
        simp at hb
        intro ⟨z1, z2⟩
        rcases hb with w | w
        · omega
        · exact w z2
      rw [if_neg hc] at hf
      have eb : bdO row = some (j : Int) := by unfold bdO; rw [← hf]; rfl
      have hng : ¬ fbad 0 0 row = none := by rw [← hf]; intro z; cases z
      refine mk_x1 c T.d_BadRow___init__.ox T.m_BadRow_place (ea_cons (ev_var rfl) ea_nil) (fun x F H c _ hd => ?_)
      refine hx hng x F H c.ext c.sub ?_ hd
      rw [eb]
      exact c.own
    · have hc : j < 60 ∧ gP p' e := by
        simp at hb
        exact ⟨by omega, hb.2⟩
      rw [if_pos hc] at hf
      refine nxt ?_
      refine st_set c (ev_ixT (K := K) (ev_var rfl) ev_c rfl) (fun F H σ c _ => ?_)
      exact hM (p'.1, some (I (j : Int)), some (Pc K p')) F H σ hf c
  · rintro ⟨e, o1, o2⟩ F H σ hf c
    dsimp only at hf c
    have hg : fbad 0 0 row = none := by rw [← hf, List.length_zipIdx, List.drop_length]; rfl
    exact st_retO c (eo_listLk (lk (ev_var rfl))) (fun p F' H' c _ hn => hq hg row p F' H' rfl c.ext c.sub (own_head c) hn)
def sp__law_cell_at (K : PySem.W.Frag) (C : Str → Addr) : Sp := CtF (fun a : List Int × Int => [Ls K (a.1.map fun n => I n), I a.2]) (fun a => 0 ≤ a.2) (fun a => I (cell a.1 a.2))
theorem ok__law_cell_at (T : G K mg C)  : Dn P w K mg base 1 "_law_cell_at" ["_law_script", "_law_k"] (sp__law_cell_at K C) := by
  refine T.d__law_cell_at.ok sc__law_cell_at (by first | exact CtF.len (fun _ => rfl) | exact CtE.len (fun _ => rfl) | exact CtR.len (fun _ => rfl) | exact CtM.len (fun _ => rfl) | exact CtO.len (fun _ => rfl) | exact CtX.len (fun _ => rfl) | exact CtMX.len (fun _ => rfl) | exact CtME.len (fun _ => rfl) | exact CtG.len (fun _ => rfl) | exact CtOX.len (fun _ => rfl) | exact sp__law_cell_at_len) (fun f cdv A outer s H vs Q E hr h => ?_)
  obtain ⟨⟨ns, k⟩, F, sFH, ha, hp, hq⟩ := h
  have c := ctx_start (N := ["_law_script", "_law_k"]) sFH ha
  refine ⟨_, (pss_cons (ps_if (pt_cmpR op_lt (pv 1) (pe_callB call_len_seq (by rfl) T.b_len (by decide +kernel) (pa_cons (pv 0) pa_nil)) (nomark _))
      (pss_one (ps_ret (pe_ix (show IxR _ (rIxL K) from ix_list) (pv 0) (pv 1) (fun _ _ => rfl))))
      pss_nil)
    (pss_one (ps_ret pe_int))), ?_⟩
  refine sq (st_if c (et_test (ev_I0 (ev_var rfl) (ev_cb (ea_cons (ev_var rfl) ea_nil) rc_lenL))) (fun hb F H c _ => ?_) (fun hb F H c _ => ?_))
  · have hk : k < (ns.length : Int) := by simpa using hb
    exact st_ret c (ev_ixL (ev_var rfl) (ev_var rfl) (atI_ints hp hk)) (fun v F' H' c _ r => hq v F' H' c.ext c.sub r)
  · have hk : ¬ k < (ns.length : Int) := by simpa using hb
    refine nxt (st_ret c ev_c (fun v F' H' c _ r => hq v F' H' c.ext c.sub ?_))
    show v = V.int (cell ns k)
    unfold cell
    rw [if_neg hk]; exact r
def sp__law_mix (K : PySem.W.Frag) (C : Str → Addr) : Sp := CtF (fun a : Int × Int => [I a.1, I a.2]) (fun a => 0 ≤ a.2 ∧ a.2 ≤ 100) (fun a => I (mix a.1 a.2))
theorem ok__law_mix (T : G K mg C)  : Dn P w K mg base 1 "_law_mix" ["_law_cell", "_law_k"] (sp__law_mix K C) := by
  refine T.d__law_mix.ok sc__law_mix (by first | exact CtF.len (fun _ => rfl) | exact CtE.len (fun _ => rfl) | exact CtR.len (fun _ => rfl) | exact CtM.len (fun _ => rfl) | exact CtO.len (fun _ => rfl) | exact CtX.len (fun _ => rfl) | exact CtMX.len (fun _ => rfl) | exact CtME.len (fun _ => rfl) | exact CtG.len (fun _ => rfl) | exact CtOX.len (fun _ => rfl) | exact sp__law_mix_len) (fun f cdv A outer s H vs Q E hr h => ?_)
  obtain ⟨⟨x, k⟩, F, sFH, ha, ⟨h0, h1⟩, hq⟩ := h
  have c := ctx_start (N := ["_law_cell", "_law_k", "_law_number"]) sFH ha
  dsimp only at h0 h1 hq
  refine ⟨_, (pss_cons (ps_set (i := 2) sc__law_mix.nd rfl (by first | exact Or.inl rfl | exact Or.inr rfl) (pe_op op_add (pe_op op_add (pe_op op_mod (pv 0) pe_int) (pe_op op_mulW pe_int (pv 1))) pe_int))
    (pss_cons (ps_set (i := 2) sc__law_mix.nd rfl (by first | exact Or.inl rfl | exact Or.inr rfl) (pe_op op_mod (pe_op op_add (pe_op op_add (pe_op op_mulW (pv 2) (pv 2)) (pe_op op_mulW pe_int (pv 2))) pe_int) pe_int))
    (pss_one (ps_ret (pe_op op_mod (pe_op op_add (pe_op op_add (pe_op op_mulW (pv 2) (pv 2)) (pe_op op_mulW pe_int (pv 2))) (pv 1)) pe_int))))), ?_⟩
  have bk : Bt 7 k := by unfold Bt; omega
  have b0 : Bt 31 (x % 2147483647) := by unfold Bt; omega
  have b7 : Bt 13 7919 := by unfold Bt; decide
  have b4 : Bt 16 48271 := by unfold Bt; decide
  have b6 : Bt 17 69621 := by unfold Bt; decide
  refine sq (st_set c (ev_I0 (ev_I0 (ev_I (ev_var rfl) ev_c (by walk_at "y")) (ev_I ev_c (ev_var rfl) (by exact b7.mulW bk))) ev_c) (fun F H σ c _ => ?_))
  obtain ⟨n, hn⟩ : ∃ n, x % 2147483647 + 7919 * k + 1 = n := ⟨_, rfl⟩
  have bn : Bt 32 n := by unfold Bt; omega
  simp only [hn] at c
  refine sq (st_set c (ev_I (ev_I0 (ev_I0 (ev_I (ev_var rfl) (ev_var rfl) (by exact bn.mulW bn)) (ev_I ev_c (ev_var rfl) (by exact b4.mulW bn))) ev_c) ev_c (by walk_at "y")) (fun F H σ c _ => ?_))
  obtain ⟨m, hm⟩ : ∃ m, (n * n + 48271 * n + 11) % 2147483647 = m := ⟨_, rfl⟩
  have bm : Bt 31 m := by unfold Bt; omega
  simp only [hm] at c
  refine st_ret c (ev_I (ev_I0 (ev_I0 (ev_I (ev_var rfl) (ev_var rfl) (by exact bm.mulW bm)) (ev_I ev_c (ev_var rfl) (by exact b6.mulW bm))) (ev_var rfl)) ev_c (by walk_at "y")) (fun v F' H' c _ r => hq v F' H' c.ext c.sub ?_)
  have e : mix x k = (m * m + 69621 * m + k) % 2147483647 := by
    unfold mix
    dsimp only
    rw [hn, hm]
  show v = V.int (mix x k)
  rw [e]
  exact r
def sp__law_piece (K : PySem.W.Frag) (C : Str → Addr) : Sp := CtF (fun a : Int × Int => [I a.1, I a.2]) (fun _ => True) (fun a => Xs (fun _ : Pie => True) (Pc K))
theorem ok__law_piece (T : G K mg C) (D__law_mix : Dn P w K mg base 1 "_law_mix" ["_law_cell", "_law_k"] (sp__law_mix K C)) : Dn P w K mg base 2 "_law_piece" ["_law_cell", "_law_at"] (sp__law_piece K C) := by
  refine T.d__law_piece.ok sc__law_piece (by first | exact CtF.len (fun _ => rfl) | exact CtE.len (fun _ => rfl) | exact CtR.len (fun _ => rfl) | exact CtM.len (fun _ => rfl) | exact CtO.len (fun _ => rfl) | exact CtX.len (fun _ => rfl) | exact CtMX.len (fun _ => rfl) | exact CtME.len (fun _ => rfl) | exact CtG.len (fun _ => rfl) | exact CtOX.len (fun _ => rfl) | exact sp__law_piece_len) (fun f cdv A outer s H vs Q E hr h => ?_)
  obtain ⟨⟨x, t⟩, F, sFH, ha, hp, hq⟩ := h
  have c := ctx_start (N := ["_law_cell", "_law_at", "_law_many"]) sFH ha
  dsimp only at hq
  refine ⟨_, (pss_cons (ps_set (i := 2) sc__law_piece.nd rfl (by first | exact Or.inl rfl | exact Or.inr rfl) (pe_ix (show IxR _ (rIxL K) from ix_list) (pe_lst (pa_cons pe_int (pa_cons (pe_op op_pow pe_int pe_int) pa_nil))) (pe_op op_mod (pe_op op_fdivW (pv 0) pe_int) pe_int) (fun _ _ => rfl)))
    (pss_one (ps_ret (pe_tup (pa_cons (pv 1) (pa_cons (pe_op op_mod (pe_d D__law_mix (hr.mono (by decide)) (by rfl) (pa_cons (pv 0) (pa_cons pe_int pa_nil))) pe_int) (pa_cons (pe_op op_add pe_int (pe_op op_mod (pe_d D__law_mix (hr.mono (by decide)) (by rfl) (pa_cons (pv 0) (pa_cons pe_int pa_nil))) (pv 2))) (pa_cons (pe_op op_add pe_int (pe_op op_mod (pe_d D__law_mix (hr.mono (by decide)) (by rfl) (pa_cons (pv 0) (pa_cons pe_int pa_nil))) (pv 2))) pa_nil)))))))), ?_⟩
  refine sq (st_set c (ev_ixLk (lk (ev_lst (K := K) (ea_cons ev_c (ea_cons (ev_k (n := 1000000) (ev_I ev_c ev_c (by walk_at "y")) (by decide +kernel)) ea_nil)) (show 2 ≤ 1000 by decide))) (ev_I (ev_I (ev_var rfl) ev_c (by walk_at "y")) ev_c (by walk_at "y")) (by exact atI_two _ _ _)) (fun F H σ c _ => ?_))
  obtain ⟨m, hm⟩ : ∃ m : Int, (if x / 4 % 2 = 0 then (9 : Int) else 1000000) = m := ⟨_, rfl⟩
  have m0 : 0 < m := by rw [← hm]; split <;> decide
  simp only [hm] at c
  refine st_ret c (ev_pc (K := K) (ea_cons (ev_var rfl) (ea_cons (ev_I (ev_call (_, _) (ea_cons (ev_var rfl) (ea_cons ev_c ea_nil)) (by walk_at "y")) ev_c (by walk_at "y")) (ea_cons (ev_I0 ev_c (ev_I (ev_call (_, _) (ea_cons (ev_var rfl) (ea_cons ev_c ea_nil)) (by walk_at "y")) (ev_var rfl) (by exact m0))) (ea_cons (ev_I0 ev_c (ev_I (ev_call (_, _) (ea_cons (ev_var rfl) (ea_cons ev_c ea_nil)) (by walk_at "y")) (ev_var rfl) (by exact m0))) ea_nil))))) (fun v F' H' c _ r => hq v F' H' c.ext c.sub ⟨_, trivial, r⟩)
def sp__law_spoiled (K : PySem.W.Frag) (C : Str → Addr) : Sp := CtF (fun a : Pie × Int => [Pc K a.1, I a.2]) (fun a => 0 ≤ a.2) (fun a => Xs (fun _ : Pie => True) (Pc K))
theorem ok__law_spoiled (T : G K mg C)  : Dn P w K mg base 1 "_law_spoiled" ["_law_piece_here", "_law_how"] (sp__law_spoiled K C) := by
  refine T.d__law_spoiled.ok sc__law_spoiled (by first | exact CtF.len (fun _ => rfl) | exact CtE.len (fun _ => rfl) | exact CtR.len (fun _ => rfl) | exact CtM.len (fun _ => rfl) | exact CtO.len (fun _ => rfl) | exact CtX.len (fun _ => rfl) | exact CtMX.len (fun _ => rfl) | exact CtME.len (fun _ => rfl) | exact CtG.len (fun _ => rfl) | exact CtOX.len (fun _ => rfl) | exact sp__law_spoiled_len) (fun f cdv A outer s H vs Q E hr h => ?_)
  obtain ⟨⟨⟨at', who, len, sh⟩, w⟩, F, sFH, ha, hw, hq⟩ := h
  have c := ctx_start (N := ["_law_piece_here", "_law_how", "_law_at", "_law_who", "_law_length", "_law_share"]) sFH ha
  dsimp only at hw hq
  refine ⟨_, (pss_cons (ps_asg (pv 0) (show PG _ _ (gTup K 4 _) from pg_tup rfl (pgs_cons (pg_name (i := 2) sc__law_spoiled.nd rfl (by first | exact Or.inl rfl | exact Or.inr rfl)) (pgs_cons (pg_name (i := 3) sc__law_spoiled.nd rfl (by first | exact Or.inl rfl | exact Or.inr rfl)) (pgs_cons (pg_name (i := 4) sc__law_spoiled.nd rfl (by first | exact Or.inl rfl | exact Or.inr rfl)) (pgs_cons (pg_name (i := 5) sc__law_spoiled.nd rfl (by first | exact Or.inl rfl | exact Or.inr rfl)) pgs_nil))))))
    (pss_cut (ps_if (pt_cmpR op_lt (pv 1) pe_int (nomark _))
      (pss_one (ps_set (i := 3) sc__law_spoiled.nd rfl (by first | exact Or.inl rfl | exact Or.inr rfl) (pe_ix (show IxR _ (rIxL K) from ix_list) (pe_lst (pa_cons pe_int (pa_cons (pe_un un_neg pe_int) (pa_cons pe_int pa_nil)))) (pv 1) (fun _ _ => rfl))))
      (pss_one (ps_if (pt_cmpR op_lt (pv 1) pe_int (nomark _))
        (pss_one (ps_set (i := 4) sc__law_spoiled.nd rfl (by first | exact Or.inl rfl | exact Or.inr rfl) (pe_ix (show IxR _ (rIxL K) from ix_list) (pe_lst (pa_cons pe_int (pa_cons (pe_op op_add (pe_op op_pow pe_int pe_int) pe_int) (pa_cons (pe_op op_sub pe_int (pv 4)) (pa_cons (pe_op op_pow pe_int pe_int) pa_nil))))) (pe_op op_sub (pv 1) pe_int) (fun _ _ => rfl))))
        (pss_one (ps_if (pt_cmpR op_lt (pv 1) pe_int (nomark _))
          (pss_one (ps_set (i := 5) sc__law_spoiled.nd rfl (by first | exact Or.inl rfl | exact Or.inr rfl) (pe_ix (show IxR _ (rIxL K) from ix_list) (pe_lst (pa_cons pe_int (pa_cons (pe_op op_add (pe_op op_pow pe_int pe_int) pe_int) (pa_cons (pe_op op_sub pe_int (pv 5)) (pa_cons (pe_op op_pow pe_int pe_int) pa_nil))))) (pe_op op_sub (pv 1) pe_int) (fun _ _ => rfl))))
          (pss_one (ps_if (pt_cmpR op_lt (pv 1) pe_int (nomark _))
            (pss_one (ps_set (i := 2) sc__law_spoiled.nd rfl (by first | exact Or.inl rfl | exact Or.inr rfl) (pe_ix (show IxR _ (rIxL K) from ix_list) (pe_lst (pa_cons (pe_op op_sub (pv 2) pe_int) (pa_cons (pe_op op_pow pe_int pe_int) (pa_cons (pe_op op_add (pe_op op_pow pe_int pe_int) pe_int) (pa_cons (pe_op op_sub (pe_op op_sub pe_int (pv 2)) pe_int) pa_nil))))) (pe_op op_sub (pv 1) pe_int) (fun _ _ => rfl))))
            pss_nil)))))))
    (pss_one (ps_ret (pe_tup (pa_cons (pv 2) (pa_cons (pv 3) (pa_cons (pv 4) (pa_cons (pv 5) pa_nil))))))))), ?_⟩
  refine sq (st_asg (R := Pc K (at', who, len, sh)) c (ev_var rfl) (gt_tup (gts_cons gt_name (gts_cons gt_name (gts_cons gt_name (gts_cons gt_name gts_nil))))) (fun F H σ c _ => ?_))
  refine cut c (fun q : Pie => [some (Pc K (at', who, len, sh)), some (I w), some (I q.1), some (I q.2.1), some (I q.2.2.1), some (I q.2.2.2)]) (fun _ => []) (fun _ => True) (fun N hN => ?_) ?_
  · refine st_if c (et_test (ev_I0 (ev_var rfl) ev_c)) (fun hb F H c _ => ?_) (fun hb F H c _ => ?_)
    · have h3 : w < 3 := by simpa using hb
      refine st_set c (ev_ixLk (lk (ev_lst (K := K) (ea_cons ev_c (ea_cons (ev_neg ev_c) (ea_cons ev_c ea_nil))) (show 3 ≤ 1000 by decide))) (ev_var rfl) (by exact atI_3i _ _ _ _ hw h3)) (fun F H σ c _ => ?_)
      exact hN (at', (if w = 0 then 12 else if w = 1 then -1 else 11), len, sh) F H _ trivial c
    · have h3 : ¬ w < 3 := by simpa using hb
      refine st_if c (et_test (ev_I0 (ev_var rfl) ev_c)) (fun hb F H c _ => ?_) (fun hb F H c _ => ?_)
      · have h7 : w < 7 := by simpa using hb
        refine st_set c (ev_ixLk (lk (ev_lst (K := K) (ea_cons ev_c (ea_cons (ev_k (n := 1000001) (ev_I0 (ev_I ev_c ev_c (by walk_at "y")) ev_c) (by decide +kernel)) (ea_cons (ev_I0 ev_c (ev_var rfl)) (ea_cons (ev_k (n := 1000000) (ev_I ev_c ev_c (by walk_at "y")) (by decide +kernel)) ea_nil)))) (show 4 ≤ 1000 by decide))) (ev_I0 (ev_var rfl) ev_c) (by exact atI_4i _ _ _ _ _ (by omega) (by omega))) (fun F H σ c _ => ?_)
        exact hN (at', who, (if w - 3 = 0 then 0 else if w - 3 = 1 then 1000001 else if w - 3 = 2 then 0 - len else 1000000), sh) F H _ trivial c
      · have h7 : ¬ w < 7 := by simpa using hb
        refine st_if c (et_test (ev_I0 (ev_var rfl) ev_c)) (fun hb F H c _ => ?_) (fun hb F H c _ => ?_)
        · have h11 : w < 11 := by simpa using hb
          refine st_set c (ev_ixLk (lk (ev_lst (K := K) (ea_cons ev_c (ea_cons (ev_k (n := 1000001) (ev_I0 (ev_I ev_c ev_c (by walk_at "y")) ev_c) (by decide +kernel)) (ea_cons (ev_I0 ev_c (ev_var rfl)) (ea_cons (ev_k (n := 1000000) (ev_I ev_c ev_c (by walk_at "y")) (by decide +kernel)) ea_nil)))) (show 4 ≤ 1000 by decide))) (ev_I0 (ev_var rfl) ev_c) (by exact atI_4i _ _ _ _ _ (by omega) (by omega))) (fun F H σ c _ => ?_)
          exact hN (at', who, len, (if w - 7 = 0 then 0 else if w - 7 = 1 then 1000001 else if w - 7 = 2 then 0 - sh else 1000000)) F H _ trivial c
        · have h11 : ¬ w < 11 := by simpa using hb
          refine st_if c (et_test (ev_I0 (ev_var rfl) ev_c)) (fun hb F H c _ => ?_) (fun hb F H c _ => ?_)
          · have h15 : w < 15 := by simpa using hb
            refine st_set c (ev_ixLk (lk (ev_lst (K := K) (ea_cons (ev_I0 (ev_var rfl) ev_c) (ea_cons (ev_k (n := 1000000000000) (ev_I ev_c ev_c (by walk_at "y")) (by decide +kernel)) (ea_cons (ev_k (n := 1000000000001) (ev_I0 (ev_I ev_c ev_c (by walk_at "y")) ev_c) (by decide +kernel)) (ea_cons (ev_I0 (ev_I0 ev_c (ev_var rfl)) ev_c) ea_nil)))) (show 4 ≤ 1000 by decide))) (ev_I0 (ev_var rfl) ev_c) (by exact atI_4i _ _ _ _ _ (by omega) (by omega))) (fun F H σ c _ => ?_)
            exact hN ((if w - 11 = 0 then at' - 1 else if w - 11 = 1 then 1000000000000 else if w - 11 = 2 then 1000000000001 else 0 - at' - 1), who, len, sh) F H _ trivial c
          · exact nxt (hN (at', who, len, sh) F H _ trivial c)
  rintro ⟨a, b, l, s⟩ F H σ _ c
  exact st_ret c (ev_pc (K := K) (ea_cons (ev_var rfl) (ea_cons (ev_var rfl) (ea_cons (ev_var rfl) (ea_cons (ev_var rfl) ea_nil))))) (fun v F' H' c _ r => hq v F' H' c.ext c.sub ⟨(a, b, l, s), trivial, r⟩)
def sp__law_row (K : PySem.W.Frag) (C : Str → Addr) : Sp := CtF (fun a : List Int => [Ls K (a.map fun n => I n)]) (fun a => a.length ≤ 100) (fun _ => Xs (fun row : List Pie => row.length ≤ 200) (fun row : List Pie => Ls K (row.map (Pc K))))
theorem ok__law_row (T : G K mg C) (D__law_cell_at : Dn P w K mg base 1 "_law_cell_at" ["_law_script", "_law_k"] (sp__law_cell_at K C)) (D__law_mix : Dn P w K mg base 1 "_law_mix" ["_law_cell", "_law_k"] (sp__law_mix K C)) (D__law_piece : Dn P w K mg base 2 "_law_piece" ["_law_cell", "_law_at"] (sp__law_piece K C)) (D__law_spoiled : Dn P w K mg base 1 "_law_spoiled" ["_law_piece_here", "_law_how"] (sp__law_spoiled K C)) : Dn P w K mg base 3 "_law_row" ["_law_script"] (sp__law_row K C) := by
  refine T.d__law_row.ok sc__law_row (by first | exact CtF.len (fun _ => rfl) | exact CtE.len (fun _ => rfl) | exact CtR.len (fun _ => rfl) | exact CtM.len (fun _ => rfl) | exact CtO.len (fun _ => rfl) | exact CtX.len (fun _ => rfl) | exact CtMX.len (fun _ => rfl) | exact CtME.len (fun _ => rfl) | exact CtG.len (fun _ => rfl) | exact CtOX.len (fun _ => rfl) | exact sp__law_row_len) (fun f cdv A outer s H vs Q E hr h => ?_)
  obtain ⟨ns, F, sFH, ha, hp, hq⟩ := h
  have c := ctx_start (N := ["_law_script", "_law_first", "_law_at", "_law_row_here", "_law_cell", "_law_gap", "_law_piece_here"]) sFH ha
  dsimp only at hp hq
  refine ⟨_, (pss_cons (ps_set (i := 1) sc__law_row.nd rfl (by first | exact Or.inl rfl | exact Or.inr rfl) (pe_d D__law_cell_at (hr.mono (by decide)) (by rfl) (pa_cons (pv 0) (pa_cons pe_int pa_nil))))
    (pss_cons (ps_set (i := 2) sc__law_row.nd rfl (by first | exact Or.inl rfl | exact Or.inr rfl) (pe_ix (show IxR _ (rIxL K) from ix_list) (pe_lst (pa_cons pe_int (pa_cons (pe_op op_mod (pe_op op_fdivW (pv 1) pe_int) (pe_op op_mulW pe_int (pe_op op_pow pe_int pe_int))) pa_nil))) (pe_op op_mod (pe_op op_mod (pv 1) pe_int) pe_int) (fun _ _ => rfl)))
    (pss_cons (ps_set (i := 3) sc__law_row.nd rfl (by first | exact Or.inl rfl | exact Or.inr rfl) (pe_lst pa_nil))
    (pss_cons (ps_for PassesOwn.never rfl (pi_list (pe_slice sl_list (pv 0) (po_some pe_int) po_none)) (pg_name (i := 4) sc__law_row.nd rfl (by first | exact Or.inl rfl | exact Or.inr rfl))
      (pss_cons (ps_set (i := 5) sc__law_row.nd rfl (by first | exact Or.inl rfl | exact Or.inr rfl) (pe_d D__law_mix (hr.mono (by decide)) (by rfl) (pa_cons (pv 4) (pa_cons pe_int pa_nil))))
      (pss_cons (ps_set (i := 2) sc__law_row.nd rfl (by first | exact Or.inl rfl | exact Or.inr rfl) (pe_op op_add (pv 2) (pe_ix (show IxR _ (rIxL K) from ix_list) (pe_lst (pa_cons (pe_op op_mod (pv 5) pe_int) (pa_cons (pe_op op_mod (pv 5) pe_int) (pa_cons (pe_op op_mod (pv 5) pe_int) (pa_cons (pv 5) pa_nil))))) (pe_op op_mod (pv 4) pe_int) (fun _ _ => rfl))))
      (pss_cons (ps_set (i := 6) sc__law_row.nd rfl (by first | exact Or.inl rfl | exact Or.inr rfl) (pe_d D__law_piece (hr.mono (by decide)) (by rfl) (pa_cons (pv 4) (pa_cons (pv 2) pa_nil))))
      (pss_cut (ps_if (pt_cmpR op_gt (pe_op op_mod (pv 1) pe_int) pe_int (nomark _))
        (pss_one (ps_set (i := 6) sc__law_row.nd rfl (by first | exact Or.inl rfl | exact Or.inr rfl) (pe_d D__law_spoiled (hr.mono (by decide)) (by rfl) (pa_cons (pv 6) (pa_cons (pe_op op_mod (pe_d D__law_mix (hr.mono (by decide)) (by rfl) (pa_cons (pv 4) (pa_cons pe_int pa_nil))) pe_int) pa_nil)))))
        pss_nil)
      (pss_one (ps_expr (pe_bm PySem.F.plainAttrs_list PySem.F.slot_list_append PySem.F.type_list_append mt_append (pv 3) (pa_cons (pv 6) pa_nil)))))))))
    (pss_cut (ps_if (PW.pt (pw_and (pt_cmpR op_eq (pe_op op_mod (pv 1) pe_int) pe_int (nomark _)) (pw_and (pt_cmpR op_eq (pe_op op_mod (pe_op op_fdivW (pv 1) pe_int) pe_int) pe_int (nomark _)) (pw_and1 (pt_cmpR (op_neD hr.units) (pv 3) (pe_lst pa_nil) (nomark _))))))
      (pss_one (ps_set (i := 3) sc__law_row.nd rfl (by first | exact Or.inl rfl | exact Or.inr rfl) (pe_op op_cat (pv 3) (pe_op op_rep (pe_lst (pa_cons (pe_ix (show IxR _ (rIxL K) from ix_list) (pv 3) (pe_un un_neg pe_int) (fun _ _ => rfl)) pa_nil)) (pe_callB (call_max2 rfl) (by rfl) T.b_max (by decide +kernel) (pa_cons pe_int (pa_cons (pe_op op_sub (pe_op op_add pe_int (pe_op op_mod (pe_op op_fdivW (pv 1) pe_int) pe_int)) (pe_callB call_len_seq (by rfl) T.b_len (by decide +kernel) (pa_cons (pv 3) pa_nil))) pa_nil)))))))
      pss_nil)
    (pss_one (ps_ret (pv 3)))))))), ?_⟩
  refine sq (st_set c (ev_call (_, _) (ea_cons (ev_var rfl) (ea_cons ev_c ea_nil)) (by walk_at "y")) (fun F H σ c _ => ?_))
  obtain ⟨x, hx⟩ : ∃ x, cell ns 0 = x := ⟨_, rfl⟩
  simp only [hx] at c
  refine sq (st_set c (ev_ixLk (lk (ev_lst (K := K) (ea_cons ev_c (ea_cons (ev_I (ev_I (ev_var rfl) ev_c (by walk_at "y")) (ev_k (n := 500000000000) (ev_I ev_c (ev_I ev_c ev_c (by walk_at "y")) (by walk_at "y")) (by decide +kernel)) (by walk_at "y")) ea_nil)) (show 2 ≤ 1000 by decide))) (ev_I (ev_I (ev_var rfl) ev_c (by walk_at "y")) ev_c (by walk_at "y")) (by exact atI_two _ _ _)) (fun F H σ c _ => ?_))
  obtain ⟨t0, et0⟩ : ∃ t : Int, (if x % 4 % 2 = 0 then (0 : Int) else x / 4 % 500000000000) = t := ⟨_, rfl⟩
  simp only [et0] at c
  refine sq (st_nil c (fun p F H σ c _ => ?_))
  refine sq (st_forS (xs := ns.drop 1) (f := fun n => I n) (fun i : Int × List Pie × Option As × Option As × Option As => [some (Ls K (ns.map fun n => I n)), some (I x), some (I i.1), some (Rf p), i.2.2.1, i.2.2.2.1, i.2.2.2.2]) (fun y i => [some (Ls K (ns.map fun n => I n)), some (I x), some (I i.1), some (Rf p), some (I y), i.2.2.2.1, i.2.2.2.2]) (fun i => [(p, oL (i.2.1.map (Pc K)))]) (fun k i => i.2.1.length = k) (t0, [], none, none, none) c (src_l (ev_ls2 (ev_slLk (lk (ev_var rfl)) (eo_some ev_c) eo_none) (by walk_at "ls"))) rfl (fun x i => gt_name) ?_ ?_)
  · rintro k y ⟨t, row, o1, o2, o3⟩ G1 F H σ N hk pg c hN
    dsimp only at pg c
    have hkl := (List.getElem?_eq_some_iff.mp hk).1
    rw [List.length_drop] at hkl
    refine sq (st_set c (ev_call (_, _) (ea_cons (ev_var rfl) (ea_cons ev_c ea_nil)) (by walk_at "y")) (fun F H σ c _ => ?_))
    obtain ⟨g, eg⟩ : ∃ g, mix y 1 = g := ⟨_, rfl⟩
    simp only [eg] at c
    refine sq (st_set c (ev_I0 (ev_var rfl) (ev_ixLk (lk (ev_lst (K := K) (ea_cons (ev_I (ev_var rfl) ev_c (by walk_at "y")) (ea_cons (ev_I (ev_var rfl) ev_c (by walk_at "y")) (ea_cons (ev_I (ev_var rfl) ev_c (by walk_at "y")) (ea_cons (ev_var rfl) ea_nil)))) (show 4 ≤ 1000 by decide))) (ev_I (ev_var rfl) ev_c (by walk_at "y")) (by exact atI_four _ _ _ _ _))) (fun F H σ c _ => ?_))
    obtain ⟨t2, et2⟩ : ∃ t2 : Int, t + (if y % 4 = 0 then g % 3 else if y % 4 = 1 then g % 2 else if y % 4 = 2 then g % 1009 else g) = t2 := ⟨_, rfl⟩
    simp only [et2] at c
    refine sq (st_set c (ev_call (_, _) (ea_cons (ev_var rfl) (ea_cons (ev_var rfl) ea_nil)) (by exact trivial)) (fun F H σ c _ => ?_))
    obtain ⟨q, _, c⟩ := c.opn 6 rfl
    refine cut c (fun q : Pie => [some (Ls K (ns.map fun n => I n)), some (I x), some (I t2), some (Rf p), some (I y), some (I g), some (Pc K q)]) (fun _ => [(p, oL (row.map (Pc K)))]) (fun _ => True) (fun N hN => ?_) ?_
    · refine st_if c (et_test (ev_I0 (ev_I (ev_var rfl) ev_c (by walk_at "y")) ev_c)) (fun hb F H c _ => ?_) (fun hb F H c _ => ?_)
      · refine st_set c (ev_call (_, _) (ea_cons (ev_var rfl) (ea_cons (ev_I (ev_call (_, _) (ea_cons (ev_var rfl) (ea_cons ev_c ea_nil)) (by walk_at "y")) ev_c (by walk_at "y")) ea_nil)) (by exact Int.emod_nonneg _ (by decide))) (fun F H σ c _ => ?_)
        obtain ⟨q2, _, c⟩ := c.opn 6 rfl
        exact hN q2 F H _ trivial c
      · exact nxt (hN q F H _ trivial c)
    rintro q F H σ _ c
    refine st_app c (ev_var rfl) (j := 0) rfl (ev_var rfl) (by rw [List.length_map]; omega) (fun F H c _ => ?_)
    refine hN (t2, row ++ [q], some (I y), some (I g), some (Pc K q)) F H σ (by dsimp only; rw [List.length_append, pg]; rfl) ?_
    rw [List.map_append]
    exact c
  · rintro ⟨t, row, o1, o2, o3⟩ F H σ pg c
    dsimp only at pg c
    rw [List.length_drop] at pg
    refine cut c (fun r : List Pie => [some (Ls K (ns.map fun n => I n)), some (I x), some (I t), some (Ls K (r.map (Pc K))), o1, o2, o3]) (fun _ => []) (fun r => r.length ≤ 200) (fun N hN => ?_) ?_
    · have hcmp := Bool.eq_false_or_eq_true (decide (row = []))
      refine st_if c (et_and (et_test (ev_eqI (ev_I (ev_var rfl) ev_c (by walk_at "y")) ev_c)) (fun hb => (et_and (et_test (ev_eqI (ev_I (ev_I (ev_var rfl) ev_c (by walk_at "y")) ev_c (by walk_at "y")) ev_c)) (fun hb => (et_test (ev_cmpNil true (kd_pc (K := K)) (lko (j := 0) (ev_var rfl) rfl rdL))))))) (fun hb F H c _ => ?_) (fun hb F H c _ => ?_)
      · have hne : row ≠ [] := by
          intro z
          rw [z] at hb
          simp at hb
        obtain ⟨l, z, elz⟩ : ∃ l z, row = l ++ [z] := by
          rcases List.eq_nil_or_concat row with w | ⟨l, z, w⟩
          · exact absurd w hne
          · exact ⟨l, z, by rw [w]; exact List.concat_eq_append⟩
        have hat : atI (row.map (Pc K)) (-1) = some (Pc K z) := by rw [elz]; exact atI_last
        have hrl : row.length ≤ 100 := by omega
        obtain ⟨k, ek⟩ : ∃ k : Int, max (0 : Int) (58 + x / 8 % 6 - ((row.map (Pc K)).length : Int)) = k := ⟨_, rfl⟩
        have k0 : 0 ≤ k := by rw [← ek]; exact Int.le_max_left _ _
        have k1 : k ≤ 100 := by
          have := Int.emod_lt_of_pos (x / 8) (show (0 : Int) < 6 by decide)
          rw [← ek]; omega
        refine em_set (R := Ls K ((row ++ List.replicate k.toNat z).map (Pc K))) c (em_is (em_cat (K := K) (j2 := 0) (Rs := row.map (Pc K)) (Ss := List.replicate k.toNat (Pc K z)) (ev_var rfl) rfl (em_of (ev_rep1 (ev_lsth (ea_cons (ev_ixLk (lko (j := 0) (ev_var rfl) rfl rdL) (ev_neg ev_c) hat) ea_nil) (show 1 ≤ 1000 by decide)) (ev_is (ev_cb (ea_cons ev_c (ea_cons (ev_I0 (ev_I0 ev_c (ev_I (ev_I (ev_var rfl) ev_c (by walk_at "y")) ev_c (by walk_at "y"))) (ev_lenLk (lko (j := 0) (ev_var rfl) rfl rdL))) ea_nil)) rc_max2) (congrArg (fun z => I z) ek)) k0 (by omega))) (by rw [List.length_map, List.length_replicate]; omega)) (by rw [List.map_append, List.map_replicate])) (fun F H σ c _ => ?_)
        have c := c.tail
        exact hN (row ++ List.replicate k.toNat z) F H _ (by rw [List.length_append, List.length_replicate]; omega) c
      · obtain ⟨F', s, c⟩ := c.frzS (K := K) (i := 3) (j := 0) rfl rfl rfl
        exact nxt (hN row F' H _ (by omega) c)
    rintro r F H σ hr c
    exact st_ret c (ev_var rfl) (fun v F' H' c _ rv => hq v F' H' c.ext c.sub ⟨r, hr, rv⟩)
def sp__law_bad (K : PySem.W.Frag) (C : Str → Addr) : Sp := CtF (fun a : List Pie => [Ls K (a.map (Pc K))]) (fun a => a.length ≤ 1000) (fun a => Op (fun n : Int => I n) (bdO a))
theorem ok__law_bad (T : G K mg C)  : Dn P w K mg base 1 "_law_bad" ["_law_row_here"] (sp__law_bad K C) := by
  refine T.d__law_bad.ok sc__law_bad (by first | exact CtF.len (fun _ => rfl) | exact CtE.len (fun _ => rfl) | exact CtR.len (fun _ => rfl) | exact CtM.len (fun _ => rfl) | exact CtO.len (fun _ => rfl) | exact CtX.len (fun _ => rfl) | exact CtMX.len (fun _ => rfl) | exact CtME.len (fun _ => rfl) | exact CtG.len (fun _ => rfl) | exact CtOX.len (fun _ => rfl) | exact sp__law_bad_len) (fun f cdv A outer s H vs Q E hr h => ?_)
  obtain ⟨row, F, sFH, ha, hln, hq⟩ := h
  have c := ctx_start (N := ["_law_row_here", "_law_ahead", "_law_place", "_law_piece_here", "_law_at", "_law_who", "_law_length", "_law_share"]) sFH ha
  dsimp only at hln hq
  refine ⟨_, (pss_cons (ps_set (i := 1) sc__law_bad.nd rfl (by first | exact Or.inl rfl | exact Or.inr rfl) pe_int)
    (pss_cons (ps_for PassesOwn.never rfl (pi_enum (by rfl) T.b_enumerate (pa_cons (pv 0) pa_nil)) (show PG _ _ (gTup K 2 _) from pg_tup rfl (pgs_cons (pg_name (i := 2) sc__law_bad.nd rfl (by first | exact Or.inl rfl | exact Or.inr rfl)) (pgs_cons (pg_name (i := 3) sc__law_bad.nd rfl (by first | exact Or.inl rfl | exact Or.inr rfl)) pgs_nil)))
      (pss_cons (ps_asg (pv 3) (show PG _ _ (gTup K 4 _) from pg_tup rfl (pgs_cons (pg_name (i := 4) sc__law_bad.nd rfl (by first | exact Or.inl rfl | exact Or.inr rfl)) (pgs_cons (pg_name (i := 5) sc__law_bad.nd rfl (by first | exact Or.inl rfl | exact Or.inr rfl)) (pgs_cons (pg_name (i := 6) sc__law_bad.nd rfl (by first | exact Or.inl rfl | exact Or.inr rfl)) (pgs_cons (pg_name (i := 7) sc__law_bad.nd rfl (by first | exact Or.inl rfl | exact Or.inr rfl)) pgs_nil))))))
      (pss_cons (ps_if (PW.pt (pw_or (pt_cmpR op_ge (pv 2) pe_int (nomark _)) (pw_or (pt_cmpR op_lt (pv 4) (pv 1) (nomark _)) (pw_or (pt_cmpR op_gt (pv 4) (pe_op op_pow pe_int pe_int) (nomark _)) (pw_or (pt_cmpR op_lt (pv 5) pe_int (nomark _)) (pw_or1 (pt_cmpR op_gt (pv 5) pe_int (nomark _))))))))
        (pss_one (ps_ret (pv 2)))
        pss_nil)
      (pss_cons (ps_if (PW.pt (pw_or (pt_cmpR op_lt (pv 6) pe_int (nomark _)) (pw_or (pt_cmpR op_gt (pv 6) (pe_op op_pow pe_int pe_int) (nomark _)) (pw_or (pt_cmpR op_lt (pv 7) pe_int (nomark _)) (pw_or1 (pt_cmpR op_gt (pv 7) (pe_op op_pow pe_int pe_int) (nomark _)))))))
        (pss_one (ps_ret (pv 2)))
        pss_nil)
      (pss_one (ps_set (i := 1) sc__law_bad.nd rfl (by first | exact Or.inl rfl | exact Or.inr rfl) (pv 4)))))))
    (pss_one (ps_ret pe_non)))), ?_⟩
  refine sq (st_set c ev_c (fun F H σ c _ => ?_))
  refine sq (st_forS (xs := row.zipIdx) (f := Et K (Pc K)) (fun i : Int × Option As × Option As × Option As × Option As × Option As × Option As => [some (Ls K (row.map (Pc K))), some (I i.1), i.2.1, i.2.2.1, i.2.2.2.1, i.2.2.2.2.1, i.2.2.2.2.2.1, i.2.2.2.2.2.2]) (fun y i => [some (Ls K (row.map (Pc K))), some (I i.1), some (I (y.2 : Int)), some (Pc K y.1), i.2.2.2.1, i.2.2.2.2.1, i.2.2.2.2.2.1, i.2.2.2.2.2.2]) (fun _ => []) (fun j i => fbad j i.1 (row.drop j) = fbad 0 0 row) (0, none, none, none, none, none, none) c (src_e (ea_cons (ev_var rfl) ea_nil)) rfl (fun x i => gt_tup (gts_cons gt_name (gts_cons gt_name gts_nil))) ?_ ?_)
  · rintro j ⟨p, w⟩ ⟨e, o1, o2, o3, o4, o5, o6⟩ G1 F H σ M hk hf c hM
    dsimp only at hf c
    rw [List.getElem?_zipIdx] at hk
    obtain ⟨p', hp', es⟩ := Option.map_eq_some_iff.mp hk
    have es1 : p' = p := congrArg Prod.fst es
    have ew : 0 + j = w := congrArg Prod.snd es
    have ew : j = w := by omega
    subst es1 ew
    rw [fbad_step hp'] at hf
    obtain ⟨at', who, len, sh⟩ := p'
    dsimp only at hf c
    refine sq (st_asg (R := Pc K (at', who, len, sh)) c (ev_var rfl) (gt_tup (gts_cons gt_name (gts_cons gt_name (gts_cons gt_name (gts_cons gt_name gts_nil))))) (fun F H σ c _ => ?_))
    have stop : ¬ (j < 60 ∧ gP (at', who, len, sh) e) → Op (fun n : Int => I n) (bdO row) = I (j : Int) := fun hc => by
      rw [if_neg hc] at hf
      unfold bdO; rw [← hf]; rfl
    refine sq (st_if c (et_or (et_test (ev_I0 (ev_var rfl) ev_c)) (fun hb => (et_or (et_test (ev_I0 (ev_var rfl) (ev_var rfl))) (fun hb => (et_or (et_test (ev_I0 (ev_var rfl) (ev_k (n := 1000000000000) (ev_I ev_c ev_c (by walk_at "y")) (by decide +kernel)))) (fun hb => (et_or (et_test (ev_I0 (ev_var rfl) ev_c)) (fun hb => (et_test (ev_I0 (ev_var rfl) ev_c)))))))))) (fun hb F H c _ => ?_) (fun hb F H c _ => ?_))
    · have hc : ¬ (j < 60 ∧ gP (at', who, len, sh) e) := by
        unfold gP
        simp at hb
        dsimp only
        omega
      exact st_ret c (ev_var rfl) (fun v F' H' c _ r => hq v F' H' c.ext c.sub (by rw [stop hc]; exact r))
    refine nxt ?_
    have h4 := hb
    refine sq (st_if c (et_or (et_test (ev_I0 (ev_var rfl) ev_c)) (fun hb => (et_or (et_test (ev_I0 (ev_var rfl) (ev_k (n := 1000000) (ev_I ev_c ev_c (by walk_at "y")) (by decide +kernel)))) (fun hb => (et_or (et_test (ev_I0 (ev_var rfl) ev_c)) (fun hb => (et_test (ev_I0 (ev_var rfl) (ev_k (n := 1000000) (ev_I ev_c ev_c (by walk_at "y")) (by decide +kernel)))))))))) (fun hb F H c _ => ?_) (fun hb F H c _ => ?_))
    · have hc : ¬ (j < 60 ∧ gP (at', who, len, sh) e) := by
        unfold gP
        simp at hb
        dsimp only
        omega
      exact st_ret c (ev_var rfl) (fun v F' H' c _ r => hq v F' H' c.ext c.sub (by rw [stop hc]; exact r))
    refine nxt ?_
    have hc : j < 60 ∧ gP (at', who, len, sh) e := by
      unfold gP
      simp at hb h4
      dsimp only
      omega
    rw [if_pos hc] at hf
    refine st_set c (ev_var rfl) (fun F H σ c _ => ?_)
    exact hM (at', some (I (j : Int)), some (Pc K (at', who, len, sh)), some (I at'), some (I who), some (I len), some (I sh)) F H σ hf c
  · rintro ⟨e, o1, o2, o3, o4, o5, o6⟩ F H σ hf c
    dsimp only at hf c
    have hg : fbad 0 0 row = none := by rw [← hf, List.length_zipIdx, List.drop_length]; rfl
    have eo : Op (fun n : Int => I n) (bdO row) = Nn := by unfold bdO; rw [hg]; rfl
    exact st_ret c ev_c (fun v F' H' c _ r => hq v F' H' c.ext c.sub (by rw [eo]; exact r))
def sp__law_whole (K : PySem.W.Frag) (C : Str → Addr) : Sp := CtF (fun a : Int => [I a]) (fun _ => True) (fun _ => B true)
theorem ok__law_whole (T : G K mg C)  : Dn P w K mg base 1 "_law_whole" ["_law_found"] (sp__law_whole K C) := by
  refine T.d__law_whole.ok sc__law_whole (by first | exact CtF.len (fun _ => rfl) | exact CtE.len (fun _ => rfl) | exact CtR.len (fun _ => rfl) | exact CtM.len (fun _ => rfl) | exact CtO.len (fun _ => rfl) | exact CtX.len (fun _ => rfl) | exact CtMX.len (fun _ => rfl) | exact CtME.len (fun _ => rfl) | exact CtG.len (fun _ => rfl) | exact CtOX.len (fun _ => rfl) | exact sp__law_whole_len) (fun f cdv A outer s H vs Q E hr h => ?_)
  obtain ⟨n, F, sFH, ha, hp, hq⟩ := h
  have c := ctx_start (N := ["_law_found"]) sFH ha
  refine ⟨_, (pss_one (ps_ret (pe_and (pe_callB call_isi (by rfl) T.b_isinstance (by decide +kernel) (pa_cons (pv 0) (pa_cons (pe_bltn (by rfl) T.b_int (u := .type "int") (v := .ty "int") (by decide +kernel) rfl) pa_nil))) (pe_one (pe_not (pe_callB call_isi (by rfl) T.b_isinstance (by decide +kernel) (pa_cons (pv 0) (pa_cons (pe_bltn (by rfl) T.b_bool (u := .type "bool") (v := .ty "bool") (by decide +kernel) rfl) pa_nil)))))))), ?_⟩
  exact st_ret c (ev_andV (ev_cb (ea_cons (ev_var rfl) (ea_cons ev_c ea_nil)) (rc_isi (.ty _) (by walk_at "ty") (kit_ty (r := true) rfl))) (fun hb => (ev_notV (ev_cb (ea_cons (ev_var rfl) (ea_cons ev_c ea_nil)) (rc_isi (.ty _) (by walk_at "ty") (kit_ty (r := false) rfl)))))) (fun v F' H' c _ r => hq v F' H' c.ext c.sub r)
def sp__law_alike (K : PySem.W.Frag) (C : Str → Addr) : Sp := CtF (fun a : List Pie => [Ls K (a.map (Pc K)), Ls K (a.map (Pc K))]) (fun a => a.length ≤ 1000) (fun _ => B true)
theorem ok__law_alike (T : G K mg C) (D__law_whole : Dn P w K mg base 1 "_law_whole" ["_law_found"] (sp__law_whole K C)) : Dn P w K mg base 2 "_law_alike" ["_law_found", "_law_row_here"] (sp__law_alike K C) := by
  refine T.d__law_alike.ok sc__law_alike (by first | exact CtF.len (fun _ => rfl) | exact CtE.len (fun _ => rfl) | exact CtR.len (fun _ => rfl) | exact CtM.len (fun _ => rfl) | exact CtO.len (fun _ => rfl) | exact CtX.len (fun _ => rfl) | exact CtMX.len (fun _ => rfl) | exact CtME.len (fun _ => rfl) | exact CtG.len (fun _ => rfl) | exact CtOX.len (fun _ => rfl) | exact sp__law_alike_len) (fun f cdv A outer s H vs Q E hr h => ?_)
  obtain ⟨row, F, sFH, ha, hln, hq⟩ := h
  have c := ctx_start (N := ["_law_found", "_law_row_here", "_law_piece_here", "_law_number"]) sFH ha
  dsimp only at hln hq
  refine ⟨_, (pss_cons (ps_if (PW.pt (pw_or (pt_not (pt_val (pe_callB call_isi (by rfl) T.b_isinstance (by decide +kernel) (pa_cons (pv 0) (pa_cons (pe_bltn (by rfl) T.b_list (u := .type "list") (v := .ty "list") (by decide +kernel) rfl) pa_nil))))) (pw_or1 (pt_cmpR (op_neD hr.units) (pv 0) (pv 1) (nomark _)))))
      (pss_one (ps_ret pe_bl))
      pss_nil)
    (pss_cons (ps_for PassesOwn.never rfl (pi_list (pv 0)) (pg_name (i := 2) sc__law_alike.nd rfl (by first | exact Or.inl rfl | exact Or.inr rfl))
      (pss_one (ps_if (PW.pt (pw_or (pt_not (pt_val (pe_callB call_isi (by rfl) T.b_isinstance (by decide +kernel) (pa_cons (pv 2) (pa_cons (pe_bltn (by rfl) T.b_tuple (u := .type "tuple") (v := .ty "tuple") (by decide +kernel) rfl) pa_nil))))) (pw_or1 (pt_not (pt_val (pe_callB (cr_all rfl) (by rfl) T.b_all (by decide +kernel) (pa_cons (by exact (pe_lc (own := [("_law_number", 3)]) rfl sc__law_alike.nd (pi_tup (pv 2)) (blkOk_by (N := ["_law_found", "_law_row_here", "_law_piece_here", "_law_number"]) (sc := defScope s__law_alike) (by decide +kernel)) (fun _ _ _ _ _ => (pg_name (i := 3) sc__law_alike.nd rfl (by first | exact Or.inl rfl | exact Or.inr rfl))) (fun _ _ _ _ _ => pts_nil) (fun _ _ _ _ _ => (pe_d D__law_whole (hr.mono (by decide)) (by rfl) (pa_cons (pv 3) pa_nil))))) pa_nil)))))))
        (pss_one (ps_ret pe_bl))
        pss_nil)))
    (pss_one (ps_ret pe_bl)))), ?_⟩
  refine sq (st_if (b := false) c (et_or (a := false) (b := false) (et_is (et_not (et_B (ev_cb (ea_cons (ev_var rfl) (ea_cons ev_c ea_nil)) (rc_isi (.ty _) (by walk_at "ty") (kit_ty (r := true) rfl))))) rfl) (fun hb => et_is (et_test (ev_neK (x := row) (y := row) (kd_list (kd_pc (K := K))) (ev_var rfl) (ev_var rfl))) (by simp))) (fun hb F H c _ => Bool.noConfusion hb) (fun hb F H c _ => nxt ?_))
  refine sq (st_forS (xs := row) (f := Pc K) (fun i : Option As => [some (Ls K (row.map (Pc K))), some (Ls K (row.map (Pc K))), i, none]) (fun y i => [some (Ls K (row.map (Pc K))), some (Ls K (row.map (Pc K))), some (Pc K y), none]) (fun _ => []) (fun _ _ => True) none c (src_l (ev_var rfl)) trivial (fun x i => gt_name) ?_ ?_)
  · rintro j p o1 G1 F H σ M hk _ c hM
    obtain ⟨at', who, len, sh⟩ := p
    refine st_if (b := false) c (et_or (a := false) (b := false) (et_is (et_not (et_B (ev_cb (ea_cons (ev_var rfl) (ea_cons ev_c ea_nil)) (rc_isi (.ty _) (by walk_at "ty") (kit_ty (r := true) rfl))))) rfl) (fun hb => et_is (et_not (et_B (ev_cb (ea_cons (ev_lcSA (K := K) (xs := [at', who, len, sh]) (f := fun n : Int => I n) _ (fun _ => B true) (src_t (ev_var rfl)) (fun x => gt_name) (by decide) (fun x hx => (ev_call _ (ea_cons (ev_var rfl) ea_nil) (by trivial))) (show 4 ≤ 100000 by decide)) ea_nil) (rc_all (g := fun _ => true))))) (by simp))) (fun hb F H c _ => Bool.noConfusion hb) (fun hb F H c _ => nxt ?_)
    exact hM (some (Pc K (at', who, len, sh))) F H _ trivial c
  · rintro o1 F H σ _ c
    exact st_ret c ev_c (fun v F' H' c _ r => hq v F' H' c.ext c.sub r)
def sp__law_by_any (K : PySem.W.Frag) (C : Str → Addr) : Sp := CtF (fun a : List Pie => [Ls K (a.map (Pc K))]) (fun a => a.length ≤ 1000 ∧ ¬ fbad 0 0 a = none) (fun _ => B true)
theorem ok__law_by_any (T : G K mg C) (D_checked : Dn P w K mg base 3 "checked" ["row"] (sp_checked K C)) : Dn P w K mg base 4 "_law_by_any" ["_law_row_here"] (sp__law_by_any K C) := by
  refine T.d__law_by_any.okX sc__law_by_any (by first | exact CtF.len (fun _ => rfl) | exact CtE.len (fun _ => rfl) | exact CtR.len (fun _ => rfl) | exact CtM.len (fun _ => rfl) | exact CtO.len (fun _ => rfl) | exact CtX.len (fun _ => rfl) | exact CtMX.len (fun _ => rfl) | exact CtME.len (fun _ => rfl) | exact CtG.len (fun _ => rfl) | exact CtOX.len (fun _ => rfl) | exact sp__law_by_any_len) (fun f cdv A outer s H vs Q E hr h => ?_)
  obtain ⟨row, F, sFH, ha, ⟨hln, hp⟩, hq⟩ := h
  have c := ctx_start (N := ["_law_row_here", "e"]) sFH ha
  dsimp only at hln hp hq
  refine ⟨_, (pss_cons (ps_try_as (i := 1) rfl rfl sc__law_by_any.nd rfl rfl ⟨rfl, by decide, .inl T.h_WheelError⟩ takes0
      (fun W pn xe tk _ => (pss_one (ps_expr (pe_dS tk D_checked (hr.mono (by decide)) (by rfl) (pa_cons (pv 0) pa_nil)))))
      (fun a oe cls d pn hz hf => (pss_one (ps_ret (pe_and (pe_callB (call_isE1 T.i_BadRow hz hf) (by rfl) T.b_isinstance (by decide +kernel) (pa_cons (pv 1) (pa_cons (pe_glob (v := .ref (C "BadRow")) (by rfl) T.h_BadRow rfl) pa_nil))) (pe_and (pe_callB (call_isE1 T.i_BadRow hz hf) (by rfl) T.b_isinstance (by decide +kernel) (pa_cons (pv 1) (pa_cons (pe_bltn (by rfl) T.b_ValueError (u := .type "ValueError") (v := .ty "ValueError") (by decide +kernel) rfl) pa_nil))) (pe_one (pe_not (pe_callB (call_isET T.i_BadRow hz hf) (by rfl) T.b_isinstance (by decide +kernel) (pa_cons (pv 1) (pa_cons (pe_tup (pa_cons (pe_glob (v := .ref (C "NoLine")) (by rfl) T.h_NoLine rfl) (pa_cons (pe_glob (v := .ref (C "Short")) (by rfl) T.h_Short rfl) pa_nil))) pa_nil)))))))))))
    (pss_one (ps_ret pe_bl))), ?_⟩
  refine sq (dropX (cl_OX row c (ea_cons (ev_var rfl) ea_nil) hln (fun g => absurd g hp) (fun g d F H c _ => ?_)))
  refine w_as T.p_BadRow_WheelError (fun a0 _ => ?_)
  have c := c.set (R := Rf a0) 1 rfl
  exact st_ret c (ev_andV (ev_isED (j := 0) (ev_var rfl) ev_c rfl (.own _) T.k_BadRow_BadRow) (fun hb => (ev_andV (ev_isED (j := 0) (ev_var rfl) ev_c rfl (.ty _) T.k_BadRow_ValueError) (fun hb => (ev_notV (ev_isETD (j := 0) (cs := [.ref (C "NoLine"), .ref (C "Short")]) (ev_var rfl) (ea_cons ev_c (ea_cons ev_c ea_nil)) rfl (.cons (.own _) (.cons (.own _) .nil)) (kit2 T.k_BadRow_NoLine T.k_BadRow_Short) (show 2 ≤ 1000 by decide))))))) (fun v F' H' c _ r => hq v F' H' c.ext c.sub r)
def sp_law (K : PySem.W.Frag) (C : Str → Addr) : Sp := LawSp K
theorem ok_law (T : G K mg C) (D__law_row : Dn P w K mg base 3 "_law_row" ["_law_script"] (sp__law_row K C)) (D__law_bad : Dn P w K mg base 1 "_law_bad" ["_law_row_here"] (sp__law_bad K C)) (D_checked : Dn P w K mg base 3 "checked" ["row"] (sp_checked K C)) (D__law_whole : Dn P w K mg base 1 "_law_whole" ["_law_found"] (sp__law_whole K C)) (D__law_by_any : Dn P w K mg base 4 "_law_by_any" ["_law_row_here"] (sp__law_by_any K C)) (D__law_alike : Dn P w K mg base 2 "_law_alike" ["_law_found", "_law_row_here"] (sp__law_alike K C)) : Dn P w K mg base 5 "law" ["_law_script"] (sp_law K C) := by
  refine T.d_law.okX sc_law (by first | exact CtF.len (fun _ => rfl) | exact CtE.len (fun _ => rfl) | exact CtR.len (fun _ => rfl) | exact CtM.len (fun _ => rfl) | exact CtO.len (fun _ => rfl) | exact CtX.len (fun _ => rfl) | exact CtMX.len (fun _ => rfl) | exact CtME.len (fun _ => rfl) | exact CtG.len (fun _ => rfl) | exact CtOX.len (fun _ => rfl) | exact sp_law_len) (fun f cdv A outer s H vs Q E hr h => ?_)
  obtain ⟨ns, F, sFH, ha, hp, hq⟩ := h
  have c := ctx_start (N := ["_law_script", "_law_row_here", "_law_due", "_law_handed", "_law_found", "_law_place", "e", "_law_again"]) sFH ha
  refine ⟨_, (pss_cons (ps_set (i := 1) sc_law.nd rfl (by first | exact Or.inl rfl | exact Or.inr rfl) (pe_d D__law_row (hr.mono (by decide)) (by rfl) (pa_cons (pe_slice sl_list (pv 0) po_none (po_some pe_int)) pa_nil)))
    (pss_cons (ps_set (i := 2) sc_law.nd rfl (by first | exact Or.inl rfl | exact Or.inr rfl) (pe_d D__law_bad (hr.mono (by decide)) (by rfl) (pa_cons (pv 1) pa_nil)))
    (pss_cons (ps_set (i := 3) sc_law.nd rfl (by first | exact Or.inl rfl | exact Or.inr rfl) (pe_callTy call_list_of (by rfl) T.b_list (by decide +kernel) (pa_cons (pv 1) pa_nil)))
    (pss_cons (ps_set (i := 4) sc_law.nd rfl (by first | exact Or.inl rfl | exact Or.inr rfl) pe_non)
    (pss_cons (ps_set (i := 5) sc_law.nd rfl (by first | exact Or.inl rfl | exact Or.inr rfl) pe_non)
    (pss_cons (ps_try_as (i := 6) rfl rfl sc_law.nd rfl rfl ⟨rfl, by decide, .inl T.h_BadRow⟩ takes0
      (fun W pn xe tk _ => (pss_one (ps_set (i := 4) sc_law.nd rfl (by first | exact Or.inl rfl | exact Or.inr rfl) (pe_dS tk D_checked (hr.mono (by decide)) (by rfl) (pa_cons (pv 3) pa_nil)))))
      (fun a oe cls d pn hz hf => (pss_one (ps_set (i := 5) sc_law.nd rfl (by first | exact Or.inl rfl | exact Or.inr rfl) (pe_xf T.f_BadRow T.m_BadRow_place hz hf (pv 6))))))
    (pss_cons (ps_if (pt_cmpR (op_neD hr.units) (pv 3) (pv 1) (nomark _))
      (pss_one (ps_ret pe_bl))
      pss_nil)
    (pss_cut (ps_if (pt_cmpR op_notN (pv 2) pe_non (nomark _))
      (pss_cons (ps_if (PW.pt (pw_or (pt_not (pt_val (pe_d D__law_whole (hr.mono (by decide)) (by rfl) (pa_cons (pv 5) pa_nil)))) (pw_or (pt_cmpR (op_neD hr.units) (pv 5) (pv 2) (nomark _)) (pw_or1 (pt_not (pt_val (pe_d D__law_by_any (hr.mono (by decide)) (by rfl) (pa_cons (pe_callTy call_list_of (by rfl) T.b_list (by decide +kernel) (pa_cons (pv 1) pa_nil)) pa_nil))))))))
        (pss_one (ps_ret pe_bl))
        pss_nil)
      (pss_cons (ps_set (i := 1) sc_law.nd rfl (by first | exact Or.inl rfl | exact Or.inr rfl) (pe_slice sl_list (pv 1) po_none (po_some (pv 2))))
      (pss_one (ps_set (i := 4) sc_law.nd rfl (by first | exact Or.inl rfl | exact Or.inr rfl) (pe_d D_checked (hr.mono (by decide)) (by rfl) (pa_cons (pe_callTy call_list_of (by rfl) T.b_list (by decide +kernel) (pa_cons (pv 1) pa_nil)) pa_nil))))))
      pss_nil)
    (pss_cons (ps_if (PW.pt (pw_or (PW.pt (pw_and (pt_cmpR op_notN (pv 5) pe_non (nomark _)) (pw_and1 (pt_cmpR op_isN (pv 2) pe_non (nomark _))))) (pw_or1 (pt_not (pt_val (pe_d D__law_alike (hr.mono (by decide)) (by rfl) (pa_cons (pv 4) (pa_cons (pv 1) pa_nil))))))))
      (pss_one (ps_ret pe_bl))
      pss_nil)
    (pss_cons (ps_set (i := 3) sc_law.nd rfl (by first | exact Or.inl rfl | exact Or.inr rfl) (pe_callTy call_list_of (by rfl) T.b_list (by decide +kernel) (pa_cons (pv 1) pa_nil)))
    (pss_cons (ps_set (i := 7) sc_law.nd rfl (by first | exact Or.inl rfl | exact Or.inr rfl) (pe_d D_checked (hr.mono (by decide)) (by rfl) (pa_cons (pv 3) pa_nil)))
    (pss_cons (ps_expr (pe_bm PySem.F.plainAttrs_list PySem.F.slot_list_append PySem.F.type_list_append mt_append (pv 4) (pa_cons (pe_tup (pa_cons pe_int (pa_cons pe_int (pa_cons pe_int (pa_cons pe_int pa_nil))))) pa_nil)))
    (pss_cons (ps_expr (pe_bm PySem.F.plainAttrs_list PySem.F.slot_list_append PySem.F.type_list_append mt_append (pv 3) (pa_cons (pe_tup (pa_cons pe_int (pa_cons pe_int (pa_cons pe_int (pa_cons pe_int pa_nil))))) pa_nil)))
    (pss_one (ps_ret (pe_and (pe_d D__law_alike (hr.mono (by decide)) (by rfl) (pa_cons (pv 7) (pa_cons (pv 1) pa_nil))) (pe_one (pe_d D__law_alike (hr.mono (by decide)) (by rfl) (pa_cons (pe_d D_checked (hr.mono (by decide)) (by rfl) (pa_cons (pe_callTy call_list_of (by rfl) T.b_list (by decide +kernel) (pa_cons (pv 1) pa_nil)) pa_nil)) (pa_cons (pv 1) pa_nil)))))))))))))))))))), ?_⟩
  refine sq (st_set c (ev_call (ns.take 64) (ea_cons (ev_ls2 (ev_slLk (lk (ev_var rfl)) eo_none (eo_some ev_c)) cutA_to) ea_nil) (by rw [List.length_take]; omega)) (fun F H σ c _ => ?_))
  obtain ⟨row, hr2, c⟩ := c.opn 1 rfl
  have hrl : row.length ≤ 1000 := by omega
  refine sq (st_set c (ev_call (_) (ea_cons (ev_var rfl) ea_nil) (by exact hrl)) (fun F H σ c _ => ?_))
  refine sq (st_set c (ev_listLk (lk (ev_var rfl))) (fun F H σ c _ => ?_))
  refine sq (st_set c ev_c (fun F H σ c _ => ?_))
  refine sq (st_set c ev_c (fun F H σ c _ => ?_))
  refine sq (cutN c (fun o : Option Addr => [some (Ls K (ns.map fun n => I n)), some (Ls K (row.map (Pc K))), some (Op (fun n : Int => I n) (bdO row)), some (Ls K (row.map (Pc K))), (match o with | some p => some (Rf p) | none => some Nn), (match o with | some _ => some Nn | none => some (I ((bdO row).getD 0))), none, none]) (fun o => match o with | some p => [(p, oL (row.map (Pc K)))] | none => []) (fun o => o.isSome = true ↔ fbad 0 0 row = none) (fun hN => ?_) ?_)
  · refine asgX (cl_OX row c (ea_cons (ev_var rfl) ea_nil) hrl (fun g b p F H hb c _ => ?_) (fun g d F H c _ => ?_))
    · have hb : b = row := hb
      subst hb
      have c := c.set (R := Rf p) 4 rfl
      exact hN (some p) F H _ ⟨fun _ => g, fun _ => rfl⟩ c
    · refine w_as T.p_BadRow_BadRow (fun a0 _ => ?_)
      have c := c.set (R := Rf a0) 6 rfl
      refine st_set c (ev_xf (j := 0) (ev_var rfl) rfl rfl) (fun F H σ c _ => ?_)
      have c := c.tail.clr 6
      exact hN none F H _ ⟨fun z => absurd z (by decide), fun z => absurd z g⟩ c
  rintro o F H σ ho c
  refine sq (st_if (b := false) c (et_is (et_test (ev_neK (x := row) (y := row) (kd_list (kd_pc (K := K))) (ev_var rfl) (ev_var rfl))) (by simp)) (fun hb F H c _ => Bool.noConfusion hb) (fun hb F H c _ => nxt ?_))
  refine cut c (fun i : List Pie × Addr × Option Int => [some (Ls K (ns.map fun n => I n)), some (Ls K (i.1.map (Pc K))), some (Op (fun n : Int => I n) i.2.2), some (Ls K (row.map (Pc K))), some (Rf i.2.1), some (Op (fun n : Int => I n) i.2.2), none, none]) (fun i => [(i.2.1, oL (i.1.map (Pc K)))]) (fun i => fbad 0 0 i.1 = none ∧ i.1.length ≤ 1000) (fun N hN => ?_) ?_
  · cases eb : fbad 0 0 row with
    | none =>
      have ebo : bdO row = none := by unfold bdO; rw [eb]; rfl
      cases o with
      | none => exact absurd (ho.mpr eb) (by decide)
      | some p =>
        rw [ebo] at c
        dsimp only at c
        refine st_if (b := false) c (et_is (et_test (ev_notNO (o := (none : Option Int)) (R := fun n : Int => I n) nev_I (ev_var rfl))) rfl) (fun hb F H c _ => Bool.noConfusion hb) (fun hb F H c _ => nxt ?_)
        exact hN (row, p, none) F H _ ⟨eb, hrl⟩ c
    | some d =>
      have ebo : bdO row = some (d : Int) := by unfold bdO; rw [eb]; rfl
      have hnb : ¬ fbad 0 0 row = none := by rw [eb]; intro z; cases z
      cases o with
      | some p => exact absurd (ho.mp rfl) hnb
      | none =>
        rw [ebo] at c
        dsimp only at c
        have hdl := fbad_le row 0 0 d eb
        have htk := fbad_take row 0 0 d eb
        rw [Nat.sub_zero] at htk
        refine st_if (b := true) c (et_is (et_test (ev_notNO (o := some (d : Int)) (R := fun n : Int => I n) nev_I (ev_var rfl))) rfl) (fun hb F H c _ => ?_) (fun hb F H c _ => Bool.noConfusion hb)
        refine sq (st_if (b := false) c (et_or (a := false) (b := false) (et_is (et_not (et_B (ev_call (d : Int) (ea_cons (ev_var rfl) ea_nil) trivial))) rfl) (fun _ => et_or (a := false) (b := false) (et_is (et_test (ev_neK (x := some (d : Int)) (y := some (d : Int)) kdO (ev_var rfl) (ev_var rfl))) (by simp)) (fun _ => et_is (et_not (et_B (ev_call row (ea_cons (ev_listLk (lk (ev_var rfl))) ea_nil) ⟨hrl, hnb⟩))) rfl))) (fun hb F H c _ => Bool.noConfusion hb) (fun hb F H c _ => nxt ?_))
        refine sq (st_set (R := Ls K ((row.take d).map (Pc K))) c (ev_ls2 (ev_slLk (lk (ev_var rfl)) eo_none (eo_some (ev_var rfl))) cutA_to) (fun F H σ c _ => ?_))
        refine st_setO c (nw_callX (row.take d) (ea_cons (ev_listLk (lk (ev_var rfl))) ea_nil) (by rw [List.length_take]; omega) htk (fun b hb => by rw [hb])) (fun p F H σ c _ => ?_)
        exact hN (row.take d, p, some (d : Int)) F H _ ⟨htk, by dsimp only; rw [List.length_take]; omega⟩ c
  rintro ⟨rw', p, od⟩ F H σ ⟨hg, hl2⟩ c
  dsimp only at hg hl2 c
  have hb0 : (!od.isNone && od.isNone) = false := by cases od <;> rfl
  refine sq (st_if (b := false) c (et_or (a := false) (b := false) (et_is (et_and (et_test (ev_notNO (o := od) (R := fun n : Int => I n) nev_I (ev_var rfl))) (fun hb => (et_test (ev_isNO (o := od) (R := fun n : Int => I n) nev_I (ev_var rfl))))) hb0) (fun _ => et_peek (K := K) (i := 4) (j := 0) rfl rfl (et_is (et_not (et_B (ev_call rw' (ea_cons (ev_var rfl) (ea_cons (ev_var rfl) ea_nil)) hl2))) rfl))) (fun hb F H c _ => Bool.noConfusion hb) (fun hb F H c _ => nxt ?_))
  refine sq (st_setO c (eo_listLk (lk (ev_var rfl))) (fun h F H σ c _ => ?_))
  refine sq (st_setO c (nw_peekX (j := 0) (row := rw') rfl rfl hl2 hg) (fun g F H σ c _ => ?_))
  have c : Ctx _ F H σ _ [(g, oL (rw'.map (Pc K))), (h, oL (rw'.map (Pc K))), (p, oL (rw'.map (Pc K)))] := c
  have hml : (rw'.map (Pc K)).length ≤ 100000 := by rw [List.length_map]; omega
  refine sq (st_app (j := 2) c (ev_var rfl) rfl (ev_pc (K := K) (ea_cons ev_c (ea_cons ev_c (ea_cons ev_c (ea_cons ev_c ea_nil))))) hml (fun F H c _ => ?_))
  refine sq (st_app (j := 1) c (ev_var rfl) rfl (ev_pc (K := K) (ea_cons ev_c (ea_cons ev_c (ea_cons ev_c (ea_cons ev_c ea_nil))))) hml (fun F H c _ => ?_))
  obtain ⟨F', s, c⟩ := c.frzS (K := K) (i := 7) (j := 0) rfl rfl rfl
  refine st_ret c (ev_andV (a := true) (b := true) (ev_call rw' (ea_cons (ev_var rfl) (ea_cons (ev_var rfl) ea_nil)) hl2) (fun hb => ev_call rw' (ea_cons (ev_ofNw (nw_callX rw' (ea_cons (ev_listLk (lk (ev_var rfl))) ea_nil) hl2 hg (fun b hb => by rw [hb]))) (ea_cons (ev_var rfl) ea_nil)) hl2)) (fun v F' H' c _ r => hq v F' H' c.ext c.sub r)
end
/-! the end -/
theorem all_mk {l : PySem.W.OpenLaw} {w : World} {K : PySem.W.Frag} {h : Heap} {mg : Str → Option Value} {fa : Addr} (X : K.In h) (G0 : h.Ns mainGlobals mg) (hfa : mg "law" = some (.ref fa)) {tk_GREATEST : Tok} {tk_LATEST : Tok} {tk_MANY : Tok} {tk_SENDERS : Tok} {C_BadRow : Addr} {C_NoLine : Addr} {C_Short : Addr} {C_WheelError : Addr} {nm_BadRow q_BadRow : Str} {N_BadRow : Addr} {bs_BadRow bm_BadRow sub_BadRow : List Value} {sn_BadRow : List Str} {ab_BadRow : Bool} {col_BadRow : Option Bool} {dd_BadRow : Option Addr} {m0_BadRow m1_BadRow m2_BadRow m3_BadRow m5_BadRow : Option Value} {f_BadRow___init__ : Addr} {od90 an90 : Option Addr} {sl90 : Array (Option Value)} {oc90 kV90 dc90 pm90 cd90 ct90 : Value} {f_is_good : Addr} {od0 an0 : Option Addr} {sl0 : Array (Option Value)} {oc0 kV0 dc0 pm0 cd0 ct0 : Value} {f_checked : Addr} {od1 an1 : Option Addr} {sl1 : Array (Option Value)} {oc1 kV1 dc1 pm1 cd1 ct1 : Value} {f__law_cell_at : Addr} {od2 an2 : Option Addr} {sl2 : Array (Option Value)} {oc2 kV2 dc2 pm2 cd2 ct2 : Value} {f__law_mix : Addr} {od3 an3 : Option Addr} {sl3 : Array (Option Value)} {oc3 kV3 dc3 pm3 cd3 ct3 : Value} {f__law_piece : Addr} {od4 an4 : Option Addr} {sl4 : Array (Option Value)} {oc4 kV4 dc4 pm4 cd4 ct4 : Value} {f__law_spoiled : Addr} {od5 an5 : Option Addr} {sl5 : Array (Option Value)} {oc5 kV5 dc5 pm5 cd5 ct5 : Value} {f__law_row : Addr} {od6 an6 : Option Addr} {sl6 : Array (Option Value)} {oc6 kV6 dc6 pm6 cd6 ct6 : Value} {f__law_bad : Addr} {od7 an7 : Option Addr} {sl7 : Array (Option Value)} {oc7 kV7 dc7 pm7 cd7 ct7 : Value} {f__law_whole : Addr} {od8 an8 : Option Addr} {sl8 : Array (Option Value)} {oc8 kV8 dc8 pm8 cd8 ct8 : Value} {f__law_alike : Addr} {od9 an9 : Option Addr} {sl9 : Array (Option Value)} {oc9 kV9 dc9 pm9 cd9 ct9 : Value} {f__law_by_any : Addr} {od10 an10 : Option Addr} {sl10 : Array (Option Value)} {oc10 kV10 dc10 pm10 cd10 ct10 : Value} {f_law : Addr} {od11 an11 : Option Addr} {sl11 : Array (Option Value)} {oc11 kV11 dc11 pm11 cd11 ct11 : Value}
    (z_ValueError : PySem.W.nsIn K mainGlobals "ValueError" = some none)
    (z_all : PySem.W.nsIn K mainGlobals "all" = some none)
    (z_bool : PySem.W.nsIn K mainGlobals "bool" = some none)
    (z_enumerate : PySem.W.nsIn K mainGlobals "enumerate" = some none)
    (z_int : PySem.W.nsIn K mainGlobals "int" = some none)
    (z_isinstance : PySem.W.nsIn K mainGlobals "isinstance" = some none)
    (z_len : PySem.W.nsIn K mainGlobals "len" = some none)
    (z_list : PySem.W.nsIn K mainGlobals "list" = some none)
    (z_max : PySem.W.nsIn K mainGlobals "max" = some none)
    (z_tuple : PySem.W.nsIn K mainGlobals "tuple" = some none)
    (gg_GREATEST : PySem.W.nsIn K mainGlobals "GREATEST" = some (some (.int 1000000 tk_GREATEST)))
    (gg_LATEST : PySem.W.nsIn K mainGlobals "LATEST" = some (some (.int 1000000000000 tk_LATEST)))
    (gg_MANY : PySem.W.nsIn K mainGlobals "MANY" = some (some (.int 60 tk_MANY)))
    (gg_SENDERS : PySem.W.nsIn K mainGlobals "SENDERS" = some (some (.int 12 tk_SENDERS)))
    (h1_BadRow : PySem.W.nsIn K mainGlobals "BadRow" = some (some (.ref C_BadRow)))
    (h1_NoLine : PySem.W.nsIn K mainGlobals "NoLine" = some (some (.ref C_NoLine)))
    (h1_Short : PySem.W.nsIn K mainGlobals "Short" = some (some (.ref C_Short)))
    (h1_WheelError : PySem.W.nsIn K mainGlobals "WheelError" = some (some (.ref C_WheelError)))
    (o1_BadRow : K.lookup C_BadRow = some (excClassObj nm_BadRow q_BadRow C_BadRow N_BadRow bs_BadRow bm_BadRow true sn_BadRow sub_BadRow ab_BadRow col_BadRow dd_BadRow m0_BadRow m1_BadRow m2_BadRow m3_BadRow m5_BadRow "ValueError.__new__")) (o2_BadRow : PySem.HandSPX.refsVE bm_BadRow = true) (o3_BadRow : PySem.W.findIn K (.ref C_BadRow) "__setattr__" = some (some (.builtin "object.__setattr__"))) (o4_BadRow : PySem.W.subIn K (.ref C_BadRow) (.type "BaseException") = some true) (o5_BadRow : PySem.W.typeIn K (.ref C_BadRow) = some (.type "type")) (o6_BadRow : PySem.W.keepIn K (.ref C_BadRow) = true)
    (a_BadRow___init__ : PySem.W.findIn K (.ref C_BadRow) "__init__" = some (some (.ref f_BadRow___init__))) (i_BadRow___init__ : PySem.W.typeIn K (.ref f_BadRow___init__) = some (.type "function")) (l_BadRow___init__ : K.lookup f_BadRow___init__ = some ⟨oc90, od90, .func (PySem.W.fnOf "__init__" "BadRow.__init__" (defArgs s_BadRow___init__) (defBody s_BadRow___init__) (defScope s_BadRow___init__) .none kV90 dc90 pm90 an90 cd90 ct90), sl90⟩) (c_BadRow___init__ : PySem.W.codeIn K cd90 "BadRow.__init__" = true) (k_BadRow___init__ : PySem.W.keepIn K (.ref f_BadRow___init__) = true)
    (m1_BadRow_place : PySem.W.findIn K (.ref C_BadRow) "place" = some none)
    (v1_BadRow : PySem.W.findIn K (.ref C_BadRow) "__getattribute__" = some (some (.builtin "BaseException.__getattribute__"))) (v2_BadRow : PySem.W.findIn K (.ref C_BadRow) "__getattr__" = some none) (v3_BadRow : PySem.W.subIn K (.ref C_BadRow) (.type "BaseException") = some true) (v4_BadRow : PySem.W.hasDictIn K C_BadRow = true)
    (v5_BadRow : PySem.W.findIn K (.ref C_BadRow) "__class__" = some (some (.builtin "object.__class__"))) (v6_BadRow : PySem.W.specialIn K (.builtin "object.__class__") "__get__" = some (some (.builtin "getset_descriptor.__get__"))) (v7_BadRow : PySem.W.takesIn K (.builtin "object.__class__") = some true) (v8_BadRow : PySem.W.mroIn K C_BadRow (.type "object") = some true)
    (kk_BadRow_BadRow : PySem.W.kitOne K (.ref C_BadRow) (.ref C_BadRow) = some true)
    (kk_BadRow_NoLine : PySem.W.kitOne K (.ref C_BadRow) (.ref C_NoLine) = some false)
    (kk_BadRow_Short : PySem.W.kitOne K (.ref C_BadRow) (.ref C_Short) = some false)
    (kk_BadRow_ValueError : PySem.W.kitOne K (.ref C_BadRow) (.type "ValueError") = some true)
    (pp_BadRow_BadRow : PySem.W.exmOne K (.ref C_BadRow) (.ref C_BadRow) = some true)
    (pp_BadRow_WheelError : PySem.W.exmOne K (.ref C_BadRow) (.ref C_WheelError) = some true)
    (a_is_good : PySem.W.nsIn K mainGlobals "is_good" = some (some (.ref f_is_good))) (l_is_good : K.lookup f_is_good = some ⟨oc0, od0, .func (PySem.W.fnOf "is_good" "is_good" (defArgs s_is_good) (defBody s_is_good) (defScope s_is_good) .none kV0 dc0 pm0 an0 cd0 ct0), sl0⟩) (c_is_good : PySem.W.codeIn K cd0 "is_good" = true) (k_is_good : PySem.W.keepIn K (.ref f_is_good) = true)
    (a_checked : PySem.W.nsIn K mainGlobals "checked" = some (some (.ref f_checked))) (l_checked : K.lookup f_checked = some ⟨oc1, od1, .func (PySem.W.fnOf "checked" "checked" (defArgs s_checked) (defBody s_checked) (defScope s_checked) .none kV1 dc1 pm1 an1 cd1 ct1), sl1⟩) (c_checked : PySem.W.codeIn K cd1 "checked" = true) (k_checked : PySem.W.keepIn K (.ref f_checked) = true)
    (a__law_cell_at : PySem.W.nsIn K mainGlobals "_law_cell_at" = some (some (.ref f__law_cell_at))) (l__law_cell_at : K.lookup f__law_cell_at = some ⟨oc2, od2, .func (PySem.W.fnOf "_law_cell_at" "_law_cell_at" (defArgs s__law_cell_at) (defBody s__law_cell_at) (defScope s__law_cell_at) .none kV2 dc2 pm2 an2 cd2 ct2), sl2⟩) (c__law_cell_at : PySem.W.codeIn K cd2 "_law_cell_at" = true) (k__law_cell_at : PySem.W.keepIn K (.ref f__law_cell_at) = true)
    (a__law_mix : PySem.W.nsIn K mainGlobals "_law_mix" = some (some (.ref f__law_mix))) (l__law_mix : K.lookup f__law_mix = some ⟨oc3, od3, .func (PySem.W.fnOf "_law_mix" "_law_mix" (defArgs s__law_mix) (defBody s__law_mix) (defScope s__law_mix) .none kV3 dc3 pm3 an3 cd3 ct3), sl3⟩) (c__law_mix : PySem.W.codeIn K cd3 "_law_mix" = true) (k__law_mix : PySem.W.keepIn K (.ref f__law_mix) = true)
    (a__law_piece : PySem.W.nsIn K mainGlobals "_law_piece" = some (some (.ref f__law_piece))) (l__law_piece : K.lookup f__law_piece = some ⟨oc4, od4, .func (PySem.W.fnOf "_law_piece" "_law_piece" (defArgs s__law_piece) (defBody s__law_piece) (defScope s__law_piece) .none kV4 dc4 pm4 an4 cd4 ct4), sl4⟩) (c__law_piece : PySem.W.codeIn K cd4 "_law_piece" = true) (k__law_piece : PySem.W.keepIn K (.ref f__law_piece) = true)
    (a__law_spoiled : PySem.W.nsIn K mainGlobals "_law_spoiled" = some (some (.ref f__law_spoiled))) (l__law_spoiled : K.lookup f__law_spoiled = some ⟨oc5, od5, .func (PySem.W.fnOf "_law_spoiled" "_law_spoiled" (defArgs s__law_spoiled) (defBody s__law_spoiled) (defScope s__law_spoiled) .none kV5 dc5 pm5 an5 cd5 ct5), sl5⟩) (c__law_spoiled : PySem.W.codeIn K cd5 "_law_spoiled" = true) (k__law_spoiled : PySem.W.keepIn K (.ref f__law_spoiled) = true)
    (a__law_row : PySem.W.nsIn K mainGlobals "_law_row" = some (some (.ref f__law_row))) (l__law_row : K.lookup f__law_row = some ⟨oc6, od6, .func (PySem.W.fnOf "_law_row" "_law_row" (defArgs s__law_row) (defBody s__law_row) (defScope s__law_row) .none kV6 dc6 pm6 an6 cd6 ct6), sl6⟩) (c__law_row : PySem.W.codeIn K cd6 "_law_row" = true) (k__law_row : PySem.W.keepIn K (.ref f__law_row) = true)
    (a__law_bad : PySem.W.nsIn K mainGlobals "_law_bad" = some (some (.ref f__law_bad))) (l__law_bad : K.lookup f__law_bad = some ⟨oc7, od7, .func (PySem.W.fnOf "_law_bad" "_law_bad" (defArgs s__law_bad) (defBody s__law_bad) (defScope s__law_bad) .none kV7 dc7 pm7 an7 cd7 ct7), sl7⟩) (c__law_bad : PySem.W.codeIn K cd7 "_law_bad" = true) (k__law_bad : PySem.W.keepIn K (.ref f__law_bad) = true)
    (a__law_whole : PySem.W.nsIn K mainGlobals "_law_whole" = some (some (.ref f__law_whole))) (l__law_whole : K.lookup f__law_whole = some ⟨oc8, od8, .func (PySem.W.fnOf "_law_whole" "_law_whole" (defArgs s__law_whole) (defBody s__law_whole) (defScope s__law_whole) .none kV8 dc8 pm8 an8 cd8 ct8), sl8⟩) (c__law_whole : PySem.W.codeIn K cd8 "_law_whole" = true) (k__law_whole : PySem.W.keepIn K (.ref f__law_whole) = true)
    (a__law_alike : PySem.W.nsIn K mainGlobals "_law_alike" = some (some (.ref f__law_alike))) (l__law_alike : K.lookup f__law_alike = some ⟨oc9, od9, .func (PySem.W.fnOf "_law_alike" "_law_alike" (defArgs s__law_alike) (defBody s__law_alike) (defScope s__law_alike) .none kV9 dc9 pm9 an9 cd9 ct9), sl9⟩) (c__law_alike : PySem.W.codeIn K cd9 "_law_alike" = true) (k__law_alike : PySem.W.keepIn K (.ref f__law_alike) = true)
    (a__law_by_any : PySem.W.nsIn K mainGlobals "_law_by_any" = some (some (.ref f__law_by_any))) (l__law_by_any : K.lookup f__law_by_any = some ⟨oc10, od10, .func (PySem.W.fnOf "_law_by_any" "_law_by_any" (defArgs s__law_by_any) (defBody s__law_by_any) (defScope s__law_by_any) .none kV10 dc10 pm10 an10 cd10 ct10), sl10⟩) (c__law_by_any : PySem.W.codeIn K cd10 "_law_by_any" = true) (k__law_by_any : PySem.W.keepIn K (.ref f__law_by_any) = true)
    (a_law : PySem.W.nsIn K mainGlobals "law" = some (some (.ref f_law))) (l_law : K.lookup f_law = some ⟨oc11, od11, .func (PySem.W.fnOf "law" "law" (defArgs s_law) (defBody s_law) (defScope s_law) .none kV11 dc11 pm11 an11 cd11 ct11), sl11⟩) (c_law : PySem.W.codeIn K cd11 "law" = true) (k_law : PySem.W.keepIn K (.ref f_law) = true) :
    ∃ fd : FuncData, (∀ (s : Shared) (v : Value), BindsTo s fd ⟨[v], []⟩ [("_law_script", v)]) ∧ ∀ base : Heap, K.In base → base.Ns mainGlobals mg → FnOk l.prog w K mg base (L2.CX l.prog w) 5 fa fd ["_law_script"] (LawSp K) := by
  have e := hfa.symm.trans (PySem.W.mg_of X G0 a_law)
  cases e
  have T : G K mg (fun x => if x = ("BadRow" : Str) then C_BadRow else if x = ("NoLine" : Str) then C_NoLine else if x = ("Short" : Str) then C_Short else if x = ("WheelError" : Str) then C_WheelError else 0) := { b_ValueError := PySem.W.mg_none_of X G0 z_ValueError, b_all := PySem.W.mg_none_of X G0 z_all, b_bool := PySem.W.mg_none_of X G0 z_bool, b_enumerate := PySem.W.mg_none_of X G0 z_enumerate, b_int := PySem.W.mg_none_of X G0 z_int, b_isinstance := PySem.W.mg_none_of X G0 z_isinstance, b_len := PySem.W.mg_none_of X G0 z_len, b_list := PySem.W.mg_none_of X G0 z_list, b_max := PySem.W.mg_none_of X G0 z_max, b_tuple := PySem.W.mg_none_of X G0 z_tuple, g_GREATEST := ⟨_, PySem.W.mg_of X G0 gg_GREATEST⟩, g_LATEST := ⟨_, PySem.W.mg_of X G0 gg_LATEST⟩, g_MANY := ⟨_, PySem.W.mg_of X G0 gg_MANY⟩, g_SENDERS := ⟨_, PySem.W.mg_of X G0 gg_SENDERS⟩, h_BadRow := PySem.W.mg_of X G0 h1_BadRow, h_NoLine := PySem.W.mg_of X G0 h1_NoLine, h_Short := PySem.W.mg_of X G0 h1_Short, h_WheelError := PySem.W.mg_of X G0 h1_WheelError, d_BadRow___init__ := te_mk X G0 h1_BadRow ⟨⟨_, _, _, _, _, _, _, _, _, _, _, _, _, _, _, o1_BadRow, o2_BadRow⟩, o3_BadRow, o4_BadRow, o5_BadRow, o6_BadRow⟩ a_BadRow___init__ i_BadRow___init__ l_BadRow___init__ c_BadRow___init__ k_BadRow___init__ (fun _ _ _ _ _ _ us hl => match us, hl with | [_, _], _ => rfl), m_BadRow_place := m1_BadRow_place, f_BadRow := ⟨v1_BadRow, v2_BadRow, v3_BadRow, v4_BadRow⟩, i_BadRow := ⟨v1_BadRow, v2_BadRow, v3_BadRow, v4_BadRow, v5_BadRow, v6_BadRow, v7_BadRow, v8_BadRow⟩, k_BadRow_BadRow := kk_BadRow_BadRow, k_BadRow_NoLine := kk_BadRow_NoLine, k_BadRow_Short := kk_BadRow_Short, k_BadRow_ValueError := kk_BadRow_ValueError, p_BadRow_BadRow := pp_BadRow_BadRow, p_BadRow_WheelError := pp_BadRow_WheelError, d_is_good := tx_mk X G0 a_is_good l_is_good c_is_good k_is_good (fun _ _ _ _ _ _ us hl => match us, hl with | [_, _], _ => rfl), d_checked := tx_mk X G0 a_checked l_checked c_checked k_checked (fun _ _ _ _ _ _ us hl => match us, hl with | [_], _ => rfl), d__law_cell_at := tx_mk X G0 a__law_cell_at l__law_cell_at c__law_cell_at k__law_cell_at (fun _ _ _ _ _ _ us hl => match us, hl with | [_, _], _ => rfl), d__law_mix := tx_mk X G0 a__law_mix l__law_mix c__law_mix k__law_mix (fun _ _ _ _ _ _ us hl => match us, hl with | [_, _], _ => rfl), d__law_piece := tx_mk X G0 a__law_piece l__law_piece c__law_piece k__law_piece (fun _ _ _ _ _ _ us hl => match us, hl with | [_, _], _ => rfl), d__law_spoiled := tx_mk X G0 a__law_spoiled l__law_spoiled c__law_spoiled k__law_spoiled (fun _ _ _ _ _ _ us hl => match us, hl with | [_, _], _ => rfl), d__law_row := tx_mk X G0 a__law_row l__law_row c__law_row k__law_row (fun _ _ _ _ _ _ us hl => match us, hl with | [_], _ => rfl), d__law_bad := tx_mk X G0 a__law_bad l__law_bad c__law_bad k__law_bad (fun _ _ _ _ _ _ us hl => match us, hl with | [_], _ => rfl), d__law_whole := tx_mk X G0 a__law_whole l__law_whole c__law_whole k__law_whole (fun _ _ _ _ _ _ us hl => match us, hl with | [_], _ => rfl), d__law_alike := tx_mk X G0 a__law_alike l__law_alike c__law_alike k__law_alike (fun _ _ _ _ _ _ us hl => match us, hl with | [_, _], _ => rfl), d__law_by_any := tx_mk X G0 a__law_by_any l__law_by_any c__law_by_any k__law_by_any (fun _ _ _ _ _ _ us hl => match us, hl with | [_], _ => rfl), d_law := tx_mk X G0 a_law l_law c_law k_law (fun _ _ _ _ _ _ us hl => match us, hl with | [_], _ => rfl) }
  refine ⟨PySem.W.fnOf "law" "law" (defArgs s_law) (defBody s_law) (defScope s_law) .none kV11 dc11 pm11 an11 cd11 ct11, fun s v => .of_eq rfl, fun base _ _ => ?_⟩
  have D_BadRow___init__ := ok_BadRow___init__ (P := l.prog) (w := w) (base := base) T
  have D_is_good := ok_is_good (P := l.prog) (w := w) (base := base) T 
  have D_checked := ok_checked (P := l.prog) (w := w) (base := base) T D_is_good D_BadRow___init__
  have D__law_cell_at := ok__law_cell_at (P := l.prog) (w := w) (base := base) T 
  have D__law_mix := ok__law_mix (P := l.prog) (w := w) (base := base) T 
  have D__law_piece := ok__law_piece (P := l.prog) (w := w) (base := base) T D__law_mix
  have D__law_spoiled := ok__law_spoiled (P := l.prog) (w := w) (base := base) T 
  have D__law_row := ok__law_row (P := l.prog) (w := w) (base := base) T D__law_cell_at D__law_mix D__law_piece D__law_spoiled
  have D__law_bad := ok__law_bad (P := l.prog) (w := w) (base := base) T 
  have D__law_whole := ok__law_whole (P := l.prog) (w := w) (base := base) T 
  have D__law_alike := ok__law_alike (P := l.prog) (w := w) (base := base) T D__law_whole
  have D__law_by_any := ok__law_by_any (P := l.prog) (w := w) (base := base) T D_checked
  have D_law := ok_law (P := l.prog) (w := w) (base := base) T D__law_row D__law_bad D_checked D__law_whole D__law_by_any D__law_alike
  exact law_end D_law (PySem.W.mg_of X G0 a_law) l_law
theorem walk {l : PySem.W.OpenLaw} {q : Program} {loose : List Str} {XP : (Str → Option Value) → Heap → Prop} {YP : World → Heap → Prop} {d : DefRec} {K : Params → PySem.W.Frag} (hn : l.most = some 63) (hdf : d.params.defaults = [])
    (hY : ∀ (w : World) (h : Heap), YP w h → (K w.params).In h)
    (F : ∀ (w : World) (mg : Str → Option Value) (fa : Addr) (h : Heap), (K w.params).In h → h.Ns mainGlobals mg → mg d.name = some (.ref fa) →
      ∃ fd : FuncData, (∀ (s : Shared) (u : Value), BindsTo s fd ⟨[u], []⟩ [("_law_script", u)]) ∧ ∀ base : Heap, (K w.params).In base → base.Ns mainGlobals mg → FnOk l.prog w (K w.params) mg base (L2.CX l.prog w) 5 fa fd ["_law_script"] (LawSp (K w.params))) :
    PySem.W.WalkO q loose XP YP l.row.toRowW d [] (fun f vs => PySem.call f vs) :=
  L2.walk_of (n := 63) (k := 5) (x := "_law_script") (CX := fun w => L2.CX l.prog w) (sp := fun w => LawSp (K w.params)) hn (by decide) hdf ⟨rfl, by decide, by decide⟩ hY F (fun _ H a ns hl _ hS => law_start hl hS) fun _ _ _ _ _ z => by
    obtain ⟨_, _, _, _, _, _, _, _, _, _, _, _, z⟩ := z
    exact z.elim
end Y
open PySem PySem.W PyProof.Rows
set_option maxRecDepth 100000 in
set_option maxHeartbeats 0 in
theorem PySem.Challenge.cw_sharewheel_k11_a_row_looked_over_holds : PySem.Challenge.rw_sharewheel_k11_a_row_looked_over.Holds := by
  w_on; o_law; k_head; (case hw => w_witness2)
  k_fill
  refine Y.walk (l := PySem.Challenge.rw_sharewheel_k11_a_row_looked_over) rfl rfl (fun w h Y => PySem.W.kIn_of Y) ?F
  case F =>
    intro w mg fa h KX G hmg
    refine' Y.all_mk KX G hmg ?z_ValueError ?z_all ?z_bool ?z_enumerate ?z_int ?z_isinstance ?z_len ?z_list ?z_max ?z_tuple ?gg_GREATEST ?gg_LATEST ?gg_MANY ?gg_SENDERS ?h1_BadRow ?h1_NoLine ?h1_Short ?h1_WheelError ?o1_BadRow ?o2_BadRow ?o3_BadRow ?o4_BadRow ?o5_BadRow ?o6_BadRow ?a_BadRow___init__ ?i_BadRow___init__ ?l_BadRow___init__ ?c_BadRow___init__ ?k_BadRow___init__ ?m1_BadRow_place ?v1_BadRow ?v2_BadRow ?v3_BadRow ?v4_BadRow ?v5_BadRow ?v6_BadRow ?v7_BadRow ?v8_BadRow ?kk_BadRow_BadRow ?kk_BadRow_NoLine ?kk_BadRow_Short ?kk_BadRow_ValueError ?pp_BadRow_BadRow ?pp_BadRow_WheelError ?a_is_good ?l_is_good ?c_is_good ?k_is_good ?a_checked ?l_checked ?c_checked ?k_checked ?a__law_cell_at ?l__law_cell_at ?c__law_cell_at ?k__law_cell_at ?a__law_mix ?l__law_mix ?c__law_mix ?k__law_mix ?a__law_piece ?l__law_piece ?c__law_piece ?k__law_piece ?a__law_spoiled ?l__law_spoiled ?c__law_spoiled ?k__law_spoiled ?a__law_row ?l__law_row ?c__law_row ?k__law_row ?a__law_bad ?l__law_bad ?c__law_bad ?k__law_bad ?a__law_whole ?l__law_whole ?c__law_whole ?k__law_whole ?a__law_alike ?l__law_alike ?c__law_alike ?k__law_alike ?a__law_by_any ?l__law_by_any ?c__law_by_any ?k__law_by_any ?a_law ?l_law ?c_law ?k_law
    (case z_ValueError => k_is)
    (case z_all => k_is)
    (case z_bool => k_is)
    (case z_enumerate => k_is)
    (case z_int => k_is)
    (case z_isinstance => k_is)
    (case z_len => k_is)
    (case z_list => k_is)
    (case z_max => k_is)
    (case z_tuple => k_is)
    (case gg_GREATEST => k_is)
    (case gg_LATEST => k_is)
    (case gg_MANY => k_is)
    (case gg_SENDERS => k_is)
    (case h1_BadRow => k_is)
    (case h1_NoLine => k_is)
    (case h1_Short => k_is)
    (case h1_WheelError => k_is)
    (case o1_BadRow => k_is)
    (case o2_BadRow => first | k_is | rfl | decide +kernel)
    (case o3_BadRow => k_is)
    (case o4_BadRow => k_is)
    (case o5_BadRow => k_is)
    (case o6_BadRow => k_is)
    (case a_BadRow___init__ => k_is)
    (case i_BadRow___init__ => k_is)
    (case l_BadRow___init__ => k_is)
    (case c_BadRow___init__ => k_is)
    (case k_BadRow___init__ => k_is)
    (case m1_BadRow_place => k_is)
    (case v1_BadRow => k_is)
    (case v2_BadRow => k_is)
    (case v3_BadRow => k_is)
    (case v4_BadRow => k_is)
    (case v5_BadRow => k_is)
    (case v6_BadRow => k_is)
    (case v7_BadRow => k_is)
    (case v8_BadRow => k_is)
    (case kk_BadRow_BadRow => first | k_is | rfl | decide +kernel)
    (case kk_BadRow_NoLine => first | k_is | rfl | decide +kernel)
    (case kk_BadRow_Short => first | k_is | rfl | decide +kernel)
    (case kk_BadRow_ValueError => first | k_is | rfl | decide +kernel)
    (case pp_BadRow_BadRow => first | k_is | rfl | decide +kernel)
    (case pp_BadRow_WheelError => first | k_is | rfl | decide +kernel)
    (case a_is_good => k_is)
    (case l_is_good => k_is)
    (case c_is_good => k_is)
    (case k_is_good => k_is)
    (case a_checked => k_is)
    (case l_checked => k_is)
    (case c_checked => k_is)
    (case k_checked => k_is)
    (case a__law_cell_at => k_is)
    (case l__law_cell_at => k_is)
    (case c__law_cell_at => k_is)
    (case k__law_cell_at => k_is)
    (case a__law_mix => k_is)
    (case l__law_mix => k_is)
    (case c__law_mix => k_is)
    (case k__law_mix => k_is)
    (case a__law_piece => k_is)
    (case l__law_piece => k_is)
    (case c__law_piece => k_is)
    (case k__law_piece => k_is)
    (case a__law_spoiled => k_is)
    (case l__law_spoiled => k_is)
    (case c__law_spoiled => k_is)
    (case k__law_spoiled => k_is)
    (case a__law_row => k_is)
    (case l__law_row => k_is)
    (case c__law_row => k_is)
    (case k__law_row => k_is)
    (case a__law_bad => k_is)
    (case l__law_bad => k_is)
    (case c__law_bad => k_is)
    (case k__law_bad => k_is)
    (case a__law_whole => k_is)
    (case l__law_whole => k_is)
    (case c__law_whole => k_is)
    (case k__law_whole => k_is)
    (case a__law_alike => k_is)
    (case l__law_alike => k_is)
    (case c__law_alike => k_is)
    (case k__law_alike => k_is)
    (case a__law_by_any => k_is)
    (case l__law_by_any => k_is)
    (case c__law_by_any => k_is)
    (case k__law_by_any => k_is)
    (case a_law => k_is)
    (case l_law => k_is)
    (case c_law => k_is)
    (case k_law => k_is)
#print axioms PySem.Challenge.cw_sharewheel_k11_a_row_looked_over_holds


