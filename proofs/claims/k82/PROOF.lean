import PyProof.Rows.All
import Wide.All
import OpenK.AllK
import Wide.FinOn
import HandS.ForMost
import HandS.Wide
import HandS.ForExc
import HandS.IsInst
import HandS.Exc
import HandS.WordsExc
import HandS.TryOnly
import HandS.Codes
import HandS.ExcOwn
import HandS.WideBits
import HandS.TryMany
import HandS.ExcCtx
import HandS.HotCalls
import HandS.Style
import HandS.Iter
import HandS.Defaults
import KE.DatumOrd
import HandS.SortKw
import HandS.ExcInit
import HandS.ExcIs
import HandS.ExcField
import HandS.More
import KE.GoesNew
import KE.GoesMore
import HandS.Dict
import HandS.Deep
import HandS.BoundDict
import PyProof.EqAt
import PyProof.EqKinds
import PyProof.ListOps
import HandS.SortInts
import HandS.Conv
import KE.KDictSum
import HandS.DictComp
import HandS.Text
import HandS.DictTup
import PyProof.StrOps2
import HandS.Finally
import HandS.StrMore
import PyProof.Rows.StrFirst
import PyProof.Rows.StrLawsPart
import KE.KIntText
import PyProof.Rows.StrBin
import PyProof.Rows.StrJoinMade
import HandS.CallSlots
import PyProof.Rows.RuleB_bool
import HandS.SortRule
import KE.KUnpack
import KE.GoesRaise
import PySem.Challenge.RW_sharewheel_k82_rows_written
set_option Elab.async false
set_option linter.all false
set_option maxRecDepth 100000
set_option maxHeartbeats 4000000
namespace Y
open PySem L2

/-! ## assertions: what a value is, over what never changes -/
structure As where
  p : Hp → V → Prop
  mono : ∀ {F F' : Hp} {v : V}, Same F F' → p F v → p F' v
def Cst (w : V) : As := ⟨fun _ v => v = w, fun _ h => h⟩
abbrev I (n : Int) : As := Cst (.int n)
abbrev B (b : Bool) : As := Cst (.bl b)
abbrev Rf (a : Addr) : As := Cst (.ref a)
abbrev Nn : As := Cst .non
abbrev S (x : Str) : As := Cst (.str x)
def Any : As := ⟨fun _ _ => True, fun _ h => h⟩
def All (F : Hp) : List As → List V → Prop
  | [], [] => True
  | R :: Rs, x :: xs => R.p F x ∧ All F Rs xs
  | _, _ => False
theorem All.mono {F F' : Hp} (s : Same F F') : ∀ {Rs : List As} {xs : List V}, All F Rs xs → All F' Rs xs
  | [], [], _ => trivial
  | R :: Rs, x :: xs, h => ⟨R.mono s h.1, All.mono s h.2⟩
  | [], _ :: _, h => h.elim
  | _ :: _, [], h => h.elim
theorem All.length {F : Hp} : ∀ {Rs : List As} {xs : List V}, All F Rs xs → xs.length = Rs.length
  | [], [], _ => rfl
  | R :: Rs, x :: xs, h => congrArg (· + 1) (All.length h.2)
  | [], _ :: _, h => h.elim
  | _ :: _, [], h => h.elim
theorem All.get {F : Hp} : ∀ {Rs : List As} {xs : List V} {i : Nat} {R : As}, All F Rs xs → Rs[i]? = some R → ∃ x, xs[i]? = some x ∧ R.p F x
  | [], [], i, R, _, e => by simp at e
  | R :: Rs, x :: xs, 0, R', h, e => by
    have e' : R = R' := Option.some.inj e
    subst e'; exact ⟨x, rfl, h.1⟩
  | R :: Rs, x :: xs, i + 1, R', h, e => by
    obtain ⟨y, e1, e2⟩ := All.get (i := i) h.2 (by simpa using e)
    exact ⟨y, by simpa using e1, e2⟩
  | [], _ :: _, _, _, h, _ => h.elim
  | _ :: _, [], _, _, h, _ => h.elim
theorem All.app {F : Hp} : ∀ {Rs Ss : List As} {xs ys : List V}, All F Rs xs → All F Ss ys → All F (Rs ++ Ss) (xs ++ ys)
  | [], _, [], _, _, h => h
  | R :: Rs, _, x :: xs, _, h, h' => ⟨h.1, All.app h.2 h'⟩
  | [], _, _ :: _, _, h, _ => h.elim
  | _ :: _, _, [], _, h, _ => h.elim
theorem All.of_get {F : Hp} : ∀ {Rs : List As} {xs : List V}, xs.length = Rs.length → (∀ (i : Nat) (R : As) (x : V), Rs[i]? = some R → xs[i]? = some x → R.p F x) → All F Rs xs
  | [], [], _, _ => trivial
  | R :: Rs, x :: xs, e, h => ⟨h 0 R x rfl rfl, All.of_get (by simpa using e) fun i R' x' a b => h (i + 1) R' x' (by simpa using a) (by simpa using b)⟩
  | [], _ :: _, e, _ => by simp at e
  | _ :: _, [], e, _ => by simp at e
theorem same_seqT {K : PySem.W.Frag} {F F' : Hp} {a : Addr} {xs : List V} (e : Same F F') (h : SqT K F a xs) : SqT K F' a xs := by
  rcases h with (h | ⟨o, h⟩) | h
  · exact .inl (.inl (e _ _ h))
  · exact .inl (.inr ⟨o, e _ _ h⟩)
  · exact .inr h
/-- a tuple, a list that stands still -/
def Tp (K : PySem.W.Frag) (Rs : List As) : As := ⟨fun F v => ∃ a xs, v = .ref a ∧ SqT K F a xs ∧ All F Rs xs, fun s h => by
  obtain ⟨a, xs, e, h1, h2⟩ := h; exact ⟨a, xs, e, same_seqT s h1, h2.mono s⟩⟩
def Ls (K : PySem.W.Frag) (Rs : List As) : As := ⟨fun F v => ∃ a xs, v = .ref a ∧ SqL K F a xs ∧ All F Rs xs, fun s h => by
  obtain ⟨a, xs, e, h1, h2⟩ := h; exact ⟨a, xs, e, s.seq h1, h2.mono s⟩⟩
/-- some value of a family -/
def Xs {β : Type} (P : β → Prop) (R : β → As) : As := ⟨fun F v => ∃ b, P b ∧ (R b).p F v, fun s h => by
  obtain ⟨b, h1, h2⟩ := h; exact ⟨b, h1, (R b).mono s h2⟩⟩

/-! ## the slots -/
abbrev Gm := List (Option As)
def Sat (F : Hp) : Gm → St → Prop
  | [], [] => True
  | none :: Γ, _ :: σ => Sat F Γ σ
  | some R :: Γ, s :: σ => (∃ v, s = some v ∧ R.p F v) ∧ Sat F Γ σ
  | _, _ => False
theorem Sat.mono {F F' : Hp} (s : Same F F') : ∀ {Γ : Gm} {σ : St}, Sat F Γ σ → Sat F' Γ σ
  | [], [], _ => trivial
  | none :: Γ, _ :: σ, h => Sat.mono (Γ := Γ) s h
  | some R :: Γ, _ :: σ, h => by
    obtain ⟨⟨v, e, q⟩, t⟩ := h
    exact ⟨⟨v, e, R.mono s q⟩, Sat.mono s t⟩
  | [], _ :: _, h => h.elim
  | none :: _, [], h => h.elim
  | some _ :: _, [], h => h.elim
theorem Sat.get {F : Hp} : ∀ {Γ : Gm} {σ : St} {i : Nat} {R : As}, Sat F Γ σ → Γ[i]? = some (some R) → ∃ v, σ[i]? = some (some v) ∧ R.p F v
  | [], [], i, R, _, e => by simp at e
  | none :: Γ, _ :: σ, 0, R, h, e => by simp at e
  | none :: Γ, s :: σ, i + 1, R, h, e => by
    obtain ⟨v, a, b⟩ := Sat.get (Γ := Γ) (σ := σ) (i := i) (R := R) h (by simpa using e)
    exact ⟨v, by simpa using a, b⟩
  | some R :: Γ, s :: σ, 0, R', h, e => by
    obtain ⟨⟨v, e1, q⟩, t⟩ := h
    have e' : R = R' := by simpa using e
    subst e'; subst e1; exact ⟨v, rfl, q⟩
  | some R :: Γ, s :: σ, i + 1, R', h, e => by
    obtain ⟨_, t⟩ := h
    obtain ⟨v, a, b⟩ := Sat.get (Γ := Γ) (σ := σ) (i := i) (R := R') t (by simpa using e)
    exact ⟨v, by simpa using a, b⟩
  | [], _ :: _, _, _, h, _ => h.elim
  | none :: _, [], _, _, h, _ => h.elim
  | some _ :: _, [], _, _, h, _ => h.elim
theorem Sat.set {F : Hp} {R : As} {v : V} (q : R.p F v) : ∀ {Γ : Gm} {σ : St} (i : Nat), Sat F Γ σ → Sat F (Γ.set i (some R)) (σ.set i (some v))
  | [], [], _, _ => trivial
  | none :: Γ, _ :: σ, 0, h => ⟨⟨v, rfl, q⟩, h⟩
  | none :: Γ, s :: σ, i + 1, h => Sat.set q (Γ := Γ) (σ := σ) i h
  | some _ :: Γ, s :: σ, 0, h => ⟨⟨v, rfl, q⟩, h.2⟩
  | some _ :: Γ, s :: σ, i + 1, h => ⟨h.1, Sat.set q (Γ := Γ) (σ := σ) i h.2⟩
  | [], _ :: _, _, h => h.elim
  | none :: _, [], _, h => h.elim
  | some _ :: _, [], _, h => h.elim
theorem Sat.unset {F : Hp} {s : Option V} : ∀ {Γ : Gm} {σ : St} (i : Nat), Sat F Γ σ → Sat F (Γ.set i none) (σ.set i s)
  | [], [], _, _ => trivial
  | none :: Γ, _ :: σ, 0, h => h
  | none :: Γ, s :: σ, i + 1, h => Sat.unset (Γ := Γ) (σ := σ) i h
  | some _ :: Γ, s :: σ, 0, h => h.2
  | some _ :: Γ, s :: σ, i + 1, h => ⟨h.1, Sat.unset (Γ := Γ) (σ := σ) i h.2⟩
  | [], _ :: _, _, h => h.elim
  | none :: _, [], _, h => h.elim
  | some _ :: _, [], _, h => h.elim
/-- fewer things known of the slots -/
inductive Wk : Gm → Gm → Prop
  | nil : Wk [] []
  | eq {R : Option As} {Γ Γ' : Gm} : Wk Γ Γ' → Wk (R :: Γ) (R :: Γ')
  | no {R : Option As} {Γ Γ' : Gm} : Wk Γ Γ' → Wk (R :: Γ) (none :: Γ')
theorem Sat.wk {F : Hp} : ∀ {Γ Γ' : Gm} {σ : St}, Wk Γ Γ' → Sat F Γ σ → Sat F Γ' σ
  | _, _, σ, .nil, h => h
  | none :: Γ, _, s :: σ, .eq w, h => Sat.wk (σ := σ) w h
  | some R :: Γ, _, s :: σ, .eq w, h => ⟨h.1, Sat.wk w h.2⟩
  | none :: Γ, _, s :: σ, .no w, h => Sat.wk (σ := σ) w h
  | some R :: Γ, _, s :: σ, .no w, h => Sat.wk (σ := σ) w h.2
  | none :: _, _, [], _, h => h.elim
  | some _ :: _, _, [], _, h => h.elim
theorem Wk.refl : ∀ Γ : Gm, Wk Γ Γ
  | [] => .nil
  | _ :: Γ => .eq (Wk.refl Γ)
theorem sat_start {F : Hp} : ∀ {Rs : List As} {vs : List V} (n : Nat), All F Rs vs → Sat F (Rs.map some ++ List.replicate n none) (vs.map some ++ List.replicate n none)
  | [], [], n, _ => by
    show Sat F (List.replicate n none) (List.replicate n none)
    induction n with
    | zero => trivial
    | succ n ih => exact ih
  | R :: Rs, x :: xs, n, h => ⟨⟨x, rfl, h.1⟩, sat_start n h.2⟩
  | [], _ :: _, _, h => h.elim
  | _ :: _, [], _, h => h.elim

/-! ## what is owned -/
structure OA where
  p : Hp → HO → Prop
  mono : ∀ {F F' : Hp} {o : HO}, Same F F' → p F o → p F' o
def oL (Rs : List As) : OA := ⟨fun F o => ∃ xs, o = .lst xs ∧ All F Rs xs, fun s h => by
  obtain ⟨xs, e, q⟩ := h; exact ⟨xs, e, q.mono s⟩⟩
abbrev Om := List (Addr × OA)
def Own (F H : Hp) (Ω : Om) : Prop := ∀ x, x ∈ Ω → F x.1 = none ∧ ∃ o, H x.1 = some o ∧ x.2.p F o

structure Ext (foot : List Addr) (F0 H0 F H : Hp) : Prop where
  fe : Same F0 F
  fr : ∀ a o, H0 a = some o → a ∉ foot → H a = some o
  dm : ∀ a, H a = none → H0 a = none
  nw : ∀ a, H0 a ≠ none → F0 a = none → F a = none
theorem Ext.refl (ft : List Addr) (F H : Hp) : Ext ft F H F H := ⟨Same.refl F, fun _ _ h _ => h, fun _ h => h, fun _ _ h => h⟩
theorem Ext.trans {ft : List Addr} {F0 H0 F1 H1 F2 H2 : Hp} (a : Ext ft F0 H0 F1 H1) (b : Ext ft F1 H1 F2 H2) : Ext ft F0 H0 F2 H2 :=
  ⟨a.fe.trans b.fe, fun x o h n => b.fr x o (a.fr x o h n) n, fun x h => a.dm x (b.dm x h), fun x h f => b.nw x (fun z => h (a.dm x z)) (a.nw x h f)⟩
theorem Ext.wid {ft ft' : List Addr} {F0 H0 F1 H1 : Hp} (a : Ext ft F0 H0 F1 H1) (h : ∀ x, x ∈ ft → x ∈ ft') : Ext ft' F0 H0 F1 H1 :=
  ⟨a.fe, fun x o q n => a.fr x o q fun z => n (h x z), a.dm, a.nw⟩
/-- a step that touches only what was not there at the start, or the footprint -/
theorem Ext.transL {ft ft' : List Addr} {F0 H0 F1 H1 F2 H2 : Hp} (a : Ext ft F0 H0 F1 H1) (b : Ext ft' F1 H1 F2 H2) (h : ∀ x, x ∈ ft' → x ∈ ft ∨ H0 x = none) : Ext ft F0 H0 F2 H2 :=
  ⟨a.fe.trans b.fe, fun x o q n => b.fr x o (a.fr x o q n) fun z => (h x z).elim n (fun e => by rw [e] at q; cases q),
    fun x h => a.dm x (b.dm x h), fun x h f => b.nw x (fun z => h (a.dm x z)) (a.nw x h f)⟩
structure Bs where
  F : Hp
  H : Hp
  ft : List Addr
  G : Hp
  ro : List Addr
def Bs.pin (Z : Bs) (G : Hp) : Bs := ⟨Z.F, Z.H, Z.ft, G, Z.ro⟩
structure Ctx (Z : Bs) (F H : Hp) (σ : St) (Γ : Gm) (Ω : Om) : Prop where
  sat : Sat F Γ σ
  sub : Same F H
  own : Own F H Ω
  nd : (Ω.map (·.1)).Nodup
  loc : ∀ x, x ∈ Ω → x.1 ∈ Z.ft ∨ Z.H x.1 = none ∨ x.1 ∈ Z.ro
  ext : Ext Z.ft Z.F Z.H F H
  pin : Same Z.G F
section
variable {Z : Bs} {F H F' H' : Hp} {σ σ' : St} {Γ Γ' : Gm} {Ω Ω' : Om} {K : PySem.W.Frag}
theorem Own.ext {ft : List Addr} (e : Ext ft F H F' H') (h : Own F H Ω) (d : ∀ x, x ∈ Ω → x.1 ∉ ft) : Own F' H' Ω := fun x hx => by
  obtain ⟨h1, o, h2, h3⟩ := h x hx
  exact ⟨e.nw _ (by rw [h2]; exact fun z => by cases z) h1, o, e.fr _ _ h2 (d x hx), x.2.mono e.fe h3⟩
theorem Ctx.step (c : Ctx Z F H σ Γ Ω) (e : Ext [] F H F' H') (s : Same F' H') : Ctx Z F' H' σ Γ Ω :=
  ⟨c.sat.mono e.fe, s, c.own.ext e (fun _ _ => List.not_mem_nil), c.nd, c.loc, c.ext.trans (e.wid fun _ h => absurd h List.not_mem_nil), c.pin.trans e.fe⟩
theorem Ctx.wk (c : Ctx Z F H σ Γ Ω) (w : Wk Γ Γ') : Ctx Z F H σ Γ' Ω := ⟨c.sat.wk w, c.sub, c.own, c.nd, c.loc, c.ext, c.pin⟩
theorem Ctx.set (c : Ctx Z F H σ Γ Ω) {R : As} {v : V} (i : Nat) (q : R.p F v) : Ctx Z F H (σ.set i (some v)) (Γ.set i (some R)) Ω := ⟨c.sat.set q i, c.sub, c.own, c.nd, c.loc, c.ext, c.pin⟩
theorem Ctx.topin (c : Ctx Z F H σ Γ Ω) {G : Hp} (h : Same G F) : Ctx (Z.pin G) F H σ Γ Ω := ⟨c.sat, c.sub, c.own, c.nd, c.loc, c.ext, h⟩
theorem Ctx.unpin {G : Hp} (c : Ctx (Z.pin G) F H σ Γ Ω) (h : Same Z.G G) : Ctx Z F H σ Γ Ω := ⟨c.sat, c.sub, c.own, c.nd, c.loc, c.ext, h.trans c.pin⟩
/-- a new thing that never changes -/
theorem Ext.new {p : Addr} {o : HO} (s : Same F H) (h : H p = none) : Ext [] F H (upd F p o) (upd H p o) ∧ Same (upd F p o) (upd H p o) := by
  have hf : F p = none := s.free h
  refine ⟨⟨fun a u e => ?_, fun a u e _ => ?_, fun a e => ?_, fun a h1 h2 => ?_⟩, fun a u e => ?_⟩
  · rw [upd_ne (ne_of_none e hf)]; exact e
  · rw [upd_ne (ne_of_none e h)]; exact e
  · by_cases q : a = p
    · subst q; exact h
    · rw [upd_ne q] at e; exact e
  · have q : a ≠ p := fun z => h1 (by rw [z]; exact h)
    rw [upd_ne q]; exact h2
  · by_cases q : a = p
    · subst q; rw [upd_same] at e ⊢; exact e
    · rw [upd_ne q] at e ⊢; exact s a u e
/-- a new thing that is not frozen -/
theorem Ext.newH {p : Addr} {o : HO} (h : H p = none) : Ext [] F H F (upd H p o) := by
  refine ⟨Same.refl F, fun a u e _ => ?_, fun a e => ?_, fun a h1 h2 => h2⟩
  · rw [upd_ne (ne_of_none e h)]; exact e
  · by_cases q : a = p
    · subst q; exact h
    · rw [upd_ne q] at e; exact e

/-! ## judgements -/
def Ev (Γ : Gm) (Ω : Om) (te : TE) (R : As) : Prop := ∀ (Z : Bs) (F H : Hp) (σ : St), Ctx Z F H σ Γ Ω → ∀ Q : VK, (∀ v F' H', Ctx Z F' H' σ Γ Ω → Ext [] F H F' H' → R.p F' v → Q v H') → te σ H Q
def EvT (Γ : Gm) (Ω : Om) (tt : TT) (b : Bool) : Prop := ∀ (Z : Bs) (F H : Hp) (σ : St), Ctx Z F H σ Γ Ω → ∀ Q : Bool → Hp → Prop, (∀ F' H', Ctx Z F' H' σ Γ Ω → Ext [] F H F' H' → Q b H') → tt σ H Q
def EvA (Γ : Gm) (Ω : Om) (ta : TA) (Rs : List As) : Prop := ∀ (Z : Bs) (F H : Hp) (σ : St), Ctx Z F H σ Γ Ω → ∀ Q : List V → Hp → Prop, (∀ vs F' H', Ctx Z F' H' σ Γ Ω → Ext [] F H F' H' → All F' Rs vs → Q vs H') → ta σ H Q
/-- by values: an operation of two, of one, a call -/
def RV (r : R2) (Rx Ry R : As) : Prop := ∀ (F H : Hp) (x y : V), Same F H → Rx.p F x → Ry.p F y → ∀ Q : VK, (∀ v F' H', Ext [] F H F' H' → Same F' H' → R.p F' v → Q v H') → r x y H Q
def RC (r : List V → Hp → VK → Prop) (Rs : List As) (R : As) : Prop := ∀ (F H : Hp) (vs : List V), Same F H → All F Rs vs → ∀ Q : VK, (∀ v F' H', Ext [] F H F' H' → Same F' H' → R.p F' v → Q v H') → r vs H Q

variable {te ta tb : TE} {tt tu : TT} {R Rx Ry : As}
theorem ev_var {i : Nat} (h : Γ[i]? = some (some R)) : Ev Γ Ω (tVar i) R := fun Z F H σ c Q q => by
  obtain ⟨v, e, r⟩ := c.sat.get h
  exact ⟨v, e, q v F H c (Ext.refl _ _ _) r⟩
theorem ev_c {v : V} : Ev Γ Ω (tC v) (Cst v) := fun Z F H σ c Q q => q v F H c (Ext.refl _ _ _) rfl
theorem ev_op {r : R2} (ha : Ev Γ Ω ta Rx) (hb : Ev Γ Ω tb Ry) (hr : RV r Rx Ry R) : Ev Γ Ω (tOp r ta tb) R := fun Z F H σ c Q q =>
  ha Z F H σ c _ fun x F1 H1 c1 s1 rx => hb Z F1 H1 σ c1 _ fun y F2 H2 c2 s2 ry =>
    hr F2 H2 x y c2.sub (Rx.mono s2.fe rx) ry Q fun v F3 H3 e3 s3 rv => q v F3 H3 (c2.step e3 s3) (s1.trans (s2.trans e3)) rv
theorem ev_un {r : V → Hp → VK → Prop} (ha : Ev Γ Ω ta Rx) (hr : ∀ (F H : Hp) (x : V), Same F H → Rx.p F x → ∀ Q : VK, (∀ v, R.p F v → Q v H) → r x H Q) : Ev Γ Ω (tUn r ta) R := fun Z F H σ c Q q =>
  ha Z F H σ c _ fun x F1 H1 c1 s1 rx => hr F1 H1 x c1.sub rx Q fun v rv => q v F1 H1 c1 s1 rv
theorem ev_neg {n : Int} (ha : Ev Γ Ω ta (I n)) : Ev Γ Ω (tUn (rU fun i => .int (-i)) ta) (I (-n)) := ev_un ha fun F H x _ e Q q => ⟨n, e, q _ rfl⟩
theorem rv_I0 {g : Int → Int → V} {i j : Int} : RV (rI0 g) (I i) (I j) (Cst (g i j)) := fun F H x y s e e' Q q => ⟨i, j, e, e', q _ F H (Ext.refl _ _ _) s rfl⟩
theorem rv_I {C : Int → Int → Prop} {g : Int → Int → V} {i j : Int} (h : C i j) : RV (rI C g) (I i) (I j) (Cst (g i j)) := fun F H x y s e e' Q q => ⟨i, j, e, e', h, q _ F H (Ext.refl _ _ _) s rfl⟩
theorem ev_I0 {g : Int → Int → V} {i j : Int} (ha : Ev Γ Ω ta (I i)) (hb : Ev Γ Ω tb (I j)) : Ev Γ Ω (tOp (rI0 g) ta tb) (Cst (g i j)) := ev_op ha hb rv_I0
theorem ev_I {C : Int → Int → Prop} {g : Int → Int → V} {i j : Int} (ha : Ev Γ Ω ta (I i)) (hb : Ev Γ Ω tb (I j)) (h : C i j) : Ev Γ Ω (tOp (rI C g) ta tb) (Cst (g i j)) := ev_op ha hb (rv_I h)
theorem ev_eqI {i j : Int} (ha : Ev Γ Ω ta (I i)) (hb : Ev Γ Ω tb (I j)) : Ev Γ Ω (tOp rEq ta tb) (B (decide (i = j))) := ev_op ha hb fun F H x y s e e' Q q => by
  cases e; cases e'
  refine ⟨rfl, ?_⟩
  have z : decide (V.int i = V.int j) = decide (i = j) := by simp
  rw [z]
  exact q _ F H (Ext.refl _ _ _) s rfl
theorem ev_neI {i j : Int} (ha : Ev Γ Ω ta (I i)) (hb : Ev Γ Ω tb (I j)) : Ev Γ Ω (tOp rNe ta tb) (B (!decide (i = j))) := ev_op ha hb fun F H x y s e e' Q q => by
  cases e; cases e'
  refine ⟨rfl, ?_⟩
  have z : decide (V.int i = V.int j) = decide (i = j) := by simp
  rw [z]
  exact q _ F H (Ext.refl _ _ _) s rfl
theorem ev_cast {R' : As} (h : Ev Γ Ω te R) (e : ∀ F v, R.p F v → R'.p F v) : Ev Γ Ω te R' := fun Z F H σ c Q q => h Z F H σ c Q fun v F1 H1 c1 s1 r => q v F1 H1 c1 s1 (e _ _ r)
theorem ev_is {R' : As} (h : Ev Γ Ω te R) (e : R = R') : Ev Γ Ω te R' := e ▸ h
/-! places of lists and tuples -/
theorem atI_all {F : Hp} {Rs : List As} {xs : List V} {i : Int} (h : All F Rs xs) (e : atI Rs i = some R) : ∃ x, atI xs i = some x ∧ R.p F x := by
  unfold atI at e ⊢
  have hl := h.length
  rw [hl]
  cases z : ixN Rs.length i with
  | none => rw [z] at e; cases e
  | some j => rw [z] at e; exact h.get e
theorem ev_ixT {Rs : List As} {i : Int} (ha : Ev Γ Ω ta (Tp K Rs)) (hb : Ev Γ Ω tb (I i)) (h : atI Rs i = some R) : Ev Γ Ω (tOp (rIxT K) ta tb) R := ev_op ha hb fun F H x y s rx e Q q => by
  obtain ⟨a, xs, ea, hs, hl⟩ := rx
  obtain ⟨v, e1, r⟩ := atI_all hl h
  exact ⟨a, xs, i, v, ea, e, same_seqT s hs, e1, q v F H (Ext.refl _ _ _) s r⟩
theorem ev_ixL {Rs : List As} {i : Int} (ha : Ev Γ Ω ta (Ls K Rs)) (hb : Ev Γ Ω tb (I i)) (h : atI Rs i = some R) : Ev Γ Ω (tOp (rIxL K) ta tb) R := ev_op ha hb fun F H x y s rx e Q q => by
  obtain ⟨a, xs, ea, hs, hl⟩ := rx
  obtain ⟨v, e1, r⟩ := atI_all hl h
  exact ⟨a, xs, i, v, ea, e, s.seq hs, e1, q v F H (Ext.refl _ _ _) s r⟩
/-! arguments, displays, calls of built-ins -/
theorem ea_nil : EvA Γ Ω tNil [] := fun Z F H σ c Q q => q [] F H c (Ext.refl _ _ _) trivial
theorem ea_cons {tr : TA} {Rs : List As} (h : Ev Γ Ω te R) (hr : EvA Γ Ω tr Rs) : EvA Γ Ω (tCons te tr) (R :: Rs) := fun Z F H σ c Q q =>
  h Z F H σ c _ fun v F1 H1 c1 s1 r => hr Z F1 H1 σ c1 _ fun vs F2 H2 c2 s2 rs => q (v :: vs) F2 H2 c2 (s1.trans s2) ⟨R.mono s2.fe r, rs⟩
theorem ev_tup {ta : TA} {Rs : List As} (h : EvA Γ Ω ta Rs) (hl : Rs.length ≤ 1000 := by decide) : Ev Γ Ω (tTup ta) (Tp K Rs) := fun Z F H σ c Q q =>
  h Z F H σ c _ fun vs F1 H1 c1 s1 rs => ⟨by rw [rs.length]; exact Nat.le_of_lt (small1000 hl), fun p hp => by
    obtain ⟨e, s⟩ := Ext.new (o := .tup vs) c1.sub hp
    exact q (.ref p) _ _ (c1.step e s) (s1.trans e) ⟨p, vs, rfl, SqT.of upd_same, rs.mono e.fe⟩⟩
theorem ev_lst {ta : TA} {Rs : List As} (h : EvA Γ Ω ta Rs) (hl : Rs.length ≤ 1000 := by decide) : Ev Γ Ω (tLst ta) (Ls K Rs) := fun Z F H σ c Q q =>
  h Z F H σ c _ fun vs F1 H1 c1 s1 rs => ⟨by rw [rs.length]; exact Nat.le_of_lt (small1000 hl), fun p hp => by
    obtain ⟨e, s⟩ := Ext.new (o := .lst vs) c1.sub hp
    exact q (.ref p) _ _ (c1.step e s) (s1.trans e) ⟨p, vs, rfl, SqL.of upd_same, rs.mono e.fe⟩⟩
theorem ev_cb {r : List V → Hp → VK → Prop} {ta : TA} {Rs : List As} (h : EvA Γ Ω ta Rs) (hr : RC r Rs R) : Ev Γ Ω (tCB r ta) R := fun Z F H σ c Q q =>
  h Z F H σ c _ fun vs F1 H1 c1 s1 rs => hr F1 H1 vs c1.sub rs Q fun v F2 H2 e2 s2 r => q v F2 H2 (c1.step e2 s2) (s1.trans e2) r
/-! tests -/
theorem et_test {b : Bool} (h : Ev Γ Ω te (B b)) : EvT Γ Ω (tTest te) b := fun Z F H σ c Q q => h Z F H σ c _ fun v F1 H1 c1 s1 r => ⟨b, r, q F1 H1 c1 s1⟩
theorem et_B {b : Bool} (h : Ev Γ Ω te (B b)) : EvT Γ Ω (tB te) b := fun Z F H σ c Q q => h Z F H σ c _ fun v F1 H1 c1 s1 r => ⟨b, r, q F1 H1 c1 s1⟩
theorem et_and {a b : Bool} (h1 : EvT Γ Ω tt a) (h2 : a = true → EvT Γ Ω tu b) : EvT Γ Ω (tAnd tt tu) (a && b) := fun Z F H σ c Q q => h1 Z F H σ c _ fun F1 H1 c1 s1 => by
  cases a with
  | true => exact iteT (h2 rfl Z F1 H1 σ c1 Q fun F2 H2 c2 s2 => q F2 H2 c2 (s1.trans s2))
  | false => exact iteF (q F1 H1 c1 s1)
theorem et_or {a b : Bool} (h1 : EvT Γ Ω tt a) (h2 : a = false → EvT Γ Ω tu b) : EvT Γ Ω (tOr tt tu) (a || b) := fun Z F H σ c Q q => h1 Z F H σ c _ fun F1 H1 c1 s1 => by
  cases a with
  | true => exact iteT (q F1 H1 c1 s1)
  | false => exact iteF (h2 rfl Z F1 H1 σ c1 Q fun F2 H2 c2 s2 => q F2 H2 c2 (s1.trans s2))
theorem et_not {a : Bool} (h1 : EvT Γ Ω tt a) : EvT Γ Ω (tNot tt) (!a) := fun Z F H σ c Q q => h1 Z F H σ c _ fun F1 H1 c1 s1 => q F1 H1 c1 s1
theorem et_is {a b : Bool} (h : EvT Γ Ω tt a) (e : a = b) : EvT Γ Ω tt b := e ▸ h
theorem ev_andV {a b : Bool} (h1 : Ev Γ Ω ta (B a)) (h2 : a = true → Ev Γ Ω tb (B b)) : Ev Γ Ω (tAndV ta tb) (B (a && b)) := fun Z F H σ c Q q => h1 Z F H σ c _ fun v F1 H1 c1 s1 r => ⟨a, r, by
  cases a with
  | true => exact iteT (h2 rfl Z F1 H1 σ c1 Q fun v F2 H2 c2 s2 r2 => q v F2 H2 c2 (s1.trans s2) r2)
  | false => exact iteF (q _ F1 H1 c1 s1 rfl)⟩
theorem ev_orV {a b : Bool} (h1 : Ev Γ Ω ta (B a)) (h2 : a = false → Ev Γ Ω tb (B b)) : Ev Γ Ω (tOrV ta tb) (B (a || b)) := fun Z F H σ c Q q => h1 Z F H σ c _ fun v F1 H1 c1 s1 r => ⟨a, r, by
  cases a with
  | true => exact iteT (q _ F1 H1 c1 s1 rfl)
  | false => exact iteF (h2 rfl Z F1 H1 σ c1 Q fun v F2 H2 c2 s2 r2 => q v F2 H2 c2 (s1.trans s2) r2)⟩
theorem ev_notV {a : Bool} (h1 : Ev Γ Ω ta (B a)) : Ev Γ Ω (tNotV ta) (B (!a)) := fun Z F H σ c Q q => h1 Z F H σ c _ fun v F1 H1 c1 s1 r => ⟨a, r, q _ F1 H1 c1 s1 rfl⟩
theorem ev_if {b : Bool} (h : EvT Γ Ω tt b) (h1 : b = true → Ev Γ Ω ta R) (h2 : b = false → Ev Γ Ω tb R) : Ev Γ Ω (tIf tt ta tb) R := fun Z F H σ c Q q => h Z F H σ c _ fun F1 H1 c1 s1 => by
  cases b with
  | true => exact iteT (h1 rfl Z F1 H1 σ c1 Q fun v F2 H2 c2 s2 r2 => q v F2 H2 c2 (s1.trans s2) r2)
  | false => exact iteF (h2 rfl Z F1 H1 σ c1 Q fun v F2 H2 c2 s2 r2 => q v F2 H2 c2 (s1.trans s2) r2)

/-! ## contracts of defs that change nothing -/
def CtF {α : Type} (args : α → List As) (pre : α → Prop) (res : α → As) : Sp := fun vs H Q _ =>
  ∃ a F, Same F H ∧ All F (args a) vs ∧ pre a ∧ ∀ v F' H', Ext [] F H F' H' → Same F' H' → (res a).p F' v → Q v H'
theorem CtF.len {α : Type} {args : α → List As} {pre : α → Prop} {res : α → As} {n : Nat} (h : ∀ a, (args a).length = n) : ∀ vs H Q E, CtF args pre res vs H Q E → vs.length = n := by
  rintro vs H Q E ⟨a, F, _, ha, _⟩
  rw [ha.length, h]
theorem ev_call {α : Type} {args : α → List As} {pre : α → Prop} {res : α → As} {E : XK} {ta : TA} (a : α) (h : EvA Γ Ω ta (args a)) (hp : pre a) : Ev Γ Ω (tCall (CtF args pre res) [] E ta) (res a) := fun Z F H σ c Q q =>
  h Z F H σ c _ fun vs F1 H1 c1 s1 rs => ⟨a, F1, c1.sub, by rw [List.append_nil]; exact rs, hp, fun v F2 H2 e2 s2 r => q v F2 H2 (c1.step e2 s2) (s1.trans e2) r⟩
theorem ctx_start {Rs : List As} {vs : List V} {N : List Str} (s : Same F H) (h : All F Rs vs) : Ctx ⟨F, H, [], F, []⟩ F H (L2.start N vs) (Rs.map some ++ List.replicate (N.length - Rs.length) none) [] := by
  refine ⟨?_, s, fun _ h => absurd h List.not_mem_nil, List.nodup_nil, fun _ h => absurd h List.not_mem_nil, Ext.refl _ _ _, Same.refl _⟩
  unfold L2.start
  rw [h.length]
  exact sat_start _ h

/-! ## targets -/
def Gt (Γ : Gm) (R : As) (g : TG) (Γ' : Gm) (ws : List Nat) : Prop := ∀ (Z : Bs) (F H : Hp) (σ : St) (v : V) (Ω : Om), Ctx Z F H σ Γ Ω → R.p F v → ∀ Q : St → Hp → Prop,
  (∀ σ', Ctx Z F H σ' Γ' Ω → (∀ vs, (∀ i, i ∈ ws → i ∈ vs) → wipe σ' vs = wipe σ vs) → Q σ' H) → g v σ H Q
def Gts (Γ : Gm) (Rs : List As) (g : TGs) (Γ' : Gm) (ws : List Nat) : Prop := ∀ (Z : Bs) (F H : Hp) (σ : St) (vs : List V) (Ω : Om), Ctx Z F H σ Γ Ω → All F Rs vs → ∀ Q : St → Hp → Prop,
  (∀ σ', Ctx Z F H σ' Γ' Ω → (∀ us, (∀ i, i ∈ ws → i ∈ us) → wipe σ' us = wipe σ us) → Q σ' H) → g vs σ H Q
theorem wipe_set {σ : St} {i : Nat} {s : Option V} : ∀ {vs : List Nat}, i ∈ vs → wipe (σ.set i s) vs = wipe σ vs
  | [], h => absurd h List.not_mem_nil
  | v :: vs, h => by
    show (wipe (σ.set i s) vs).set v none = (wipe σ vs).set v none
    by_cases hi : i ∈ vs
    · rw [wipe_set hi]
    · have e : i = v := by
        rcases List.mem_cons.mp h with q | q
        · exact q
        · exact absurd q hi
      subst e
      have k : ∀ {us : List Nat} {τ : St}, i ∉ us → wipe (τ.set i s) us = (wipe τ us).set i s := fun {us τ} => by
        induction us with
        | nil => intro _; rfl
        | cons u us ih =>
          intro hn
          have h1 : u ≠ i := fun z => hn (by rw [z]; exact List.mem_cons_self)
          have h2 : i ∉ us := fun z => hn (List.mem_cons_of_mem _ z)
          show (wipe (τ.set i s) us).set u none = ((wipe τ us).set u none).set i s
          rw [ih h2, List.set_comm _ _ h1]
      rw [k hi, List.set_set]
theorem gt_name {i : Nat} : Gt Γ R (gName i) (Γ.set i (some R)) [i] := fun Z F H σ v Ω c r Q q => q _ (c.set i r) fun vs h => wipe_set (h i List.mem_cons_self)
theorem gts_nil : Gts Γ [] gNil Γ [] := fun Z F H σ vs Ω c rs Q q => by
  cases vs with
  | nil => exact ⟨rfl, q σ c fun _ _ => rfl⟩
  | cons _ _ => exact rs.elim
theorem gts_cons {t : TG} {u : TGs} {Γ1 Γ2 : Gm} {Rs : List As} {w1 w2 : List Nat} (h : Gt Γ R t Γ1 w1) (h' : Gts Γ1 Rs u Γ2 w2) : Gts Γ (R :: Rs) (gCons t u) Γ2 (w1 ++ w2) := fun Z F H σ vs Ω c rs Q q => by
  cases vs with
  | nil => exact rs.elim
  | cons x xs => exact ⟨x, xs, rfl, h Z F H σ x Ω c rs.1 _ fun σ1 c1 k1 => h' Z F H σ1 xs Ω c1 rs.2 Q fun σ2 c2 k2 => q σ2 c2 fun us hu =>
      (k2 us fun i hi => hu i (List.mem_append_right _ hi)).trans (k1 us fun i hi => hu i (List.mem_append_left _ hi))⟩
theorem gt_tup {n : Nat} {t : TGs} {Rs : List As} {ws : List Nat} (h : Gts Γ Rs t Γ' ws) (hn : Rs.length = n := by rfl) : Gt Γ (Tp K Rs) (gTup K n t) Γ' ws := fun Z F H σ v Ω c r Q q => by
  obtain ⟨a, xs, e, hs, hl⟩ := r
  exact ⟨a, xs, e, same_seqT c.sub hs, hl.length.trans hn, h Z F H σ xs Ω c hl Q q⟩

/-! ## statements -/
variable {n : L2.St → Hp → Prop} {r : VK} {bk ct : L2.St → Hp → Prop} {t1 t2 : TS}
theorem st_asg {g : TG} {ws : List Nat} (c : Ctx Z F H σ Γ Ω) (e : Ev Γ Ω te R) (hg : Gt Γ R g Γ' ws) (k : ∀ F' H' σ', Ctx Z F' H' σ' Γ' Ω → Same F F' → n σ' H') : tAsg te g ⟨n, r, bk, ct⟩ σ H :=
  e Z F H σ c _ fun v F1 H1 c1 s1 rv => hg Z F1 H1 σ v Ω c1 rv _ fun σ' c2 _ => k F1 H1 σ' c2 s1.fe
theorem st_set {i : Nat} (c : Ctx Z F H σ Γ Ω) (e : Ev Γ Ω te R) (k : ∀ F' H' σ', Ctx Z F' H' σ' (Γ.set i (some R)) Ω → Same F F' → n σ' H') : tAsg te (gName i) ⟨n, r, bk, ct⟩ σ H := st_asg c e gt_name k
theorem st_drop (c : Ctx Z F H σ Γ Ω) (e : Ev Γ Ω te R) (k : ∀ F' H', Ctx Z F' H' σ Γ Ω → Same F F' → n σ H') : tDrop te ⟨n, r, bk, ct⟩ σ H := e Z F H σ c _ fun _ F1 H1 c1 s1 _ => k F1 H1 c1 s1.fe
theorem st_ret (c : Ctx Z F H σ Γ Ω) (e : Ev Γ Ω te R) (k : ∀ v F' H', Ctx Z F' H' σ Γ Ω → Same F F' → R.p F' v → r v H') : tRet te ⟨n, r, bk, ct⟩ σ H := e Z F H σ c _ fun v F1 H1 c1 s1 rv => k v F1 H1 c1 s1.fe rv
theorem st_if {b : Bool} (c : Ctx Z F H σ Γ Ω) (e : EvT Γ Ω tt b) (k1 : b = true → ∀ F' H', Ctx Z F' H' σ Γ Ω → Same F F' → t1 ⟨n, r, bk, ct⟩ σ H') (k2 : b = false → ∀ F' H', Ctx Z F' H' σ Γ Ω → Same F F' → t2 ⟨n, r, bk, ct⟩ σ H') : tIfS tt t1 t2 ⟨n, r, bk, ct⟩ σ H :=
  e Z F H σ c _ fun F1 H1 c1 s1 => by
    cases b with
    | true => exact iteT (k1 rfl F1 H1 c1 s1.fe)
    | false => exact iteF (k2 rfl F1 H1 c1 s1.fe)
theorem st_par {i j : Nat} {ta : TA} {R1 R2 : As} (c : Ctx Z F H σ Γ Ω) (e : EvA Γ Ω ta [R1, R2]) (k : ∀ F' H' σ', Ctx Z F' H' σ' ((Γ.set i (some R1)).set j (some R2)) Ω → Same F F' → n σ' H') : tPar i j ta ⟨n, r, bk, ct⟩ σ H :=
  e Z F H σ c _ fun vs F1 H1 c1 s1 rs => by
    match vs, rs with
    | [v, w], ⟨r1, r2, _⟩ => exact ⟨v, w, rfl, k F1 H1 _ ((c1.set i r1).set j r2) s1.fe⟩
theorem st_aug {i : Nat} {ti : TIp} {Rx : As} (c : Ctx Z F H σ Γ Ω) (h : Γ[i]? = some (some Rx)) (e : Ev Γ Ω te Ry) (hr : RV ti Rx Ry R) (k : ∀ F' H' σ', Ctx Z F' H' σ' (Γ.set i (some R)) Ω → Same F F' → n σ' H') : tAug i te ti ⟨n, r, bk, ct⟩ σ H := by
  obtain ⟨x, ex, rx⟩ := c.sat.get h
  exact ⟨x, ex, e Z F H σ c _ fun y F1 H1 c1 s1 ry => hr F1 H1 x y c1.sub (Rx.mono s1.fe rx) ry _ fun v F2 H2 e2 s2 rv => k F2 H2 _ ((c1.step e2 s2).set i rv) (s1.fe.trans e2.fe)⟩
theorem st_while {ι : Type} {tc : TT} {tb : TS} (G : ι → Gm) (O : ι → Om) (P : ι → Prop) (μ : ι → Nat) (b : ι → Bool) (i0 : ι) (c : Ctx Z F H σ (G i0) (O i0)) (p0 : P i0) (ht : ∀ i, P i → EvT (G i) (O i) tc (b i))
    (body : ∀ i F H σ (N : St → Hp → Prop), P i → b i = true → Ctx Z F H σ (G i) (O i) → (∀ j F' H' σ', P j → μ j < μ i → Ctx Z F' H' σ' (G j) (O j) → N σ' H') → tb ⟨N, r, n, N⟩ σ H)
    (hd : ∀ i F H σ, P i → b i = false → Ctx Z F H σ (G i) (O i) → n σ H) : tWhile tc tb ⟨n, r, bk, ct⟩ σ H := by
  refine ⟨fun m σ H => ∃ i F, μ i = m ∧ P i ∧ Ctx Z F H σ (G i) (O i), ⟨_, i0, F, rfl, p0, c⟩, ?_⟩
  rintro m σ H ⟨i, F, rfl, p, c⟩
  refine ht i p Z F H σ c _ fun F1 H1 c1 s1 => ?_
  cases e : b i with
  | true => exact iteT ⟨fun σ' H' => ∃ m', m' < μ i ∧ ∃ j F', μ j = m' ∧ P j ∧ Ctx Z F' H' σ' (G j) (O j), fun σ' H' h => h, body i F1 H1 σ _ p e c1 fun j F' H' σ' pj lt cj => ⟨_, lt, j, F', rfl, pj, cj⟩⟩
  | false => exact iteF (hd i F1 H1 σ p e c1)
theorem st_for {ι α : Type} {tl : TE} {g : TG} {tb : TS} {xs : List α} {f : α → As} (G : ι → Gm) (G' : α → ι → Gm) (O : ι → Om) (P : Nat → ι → Prop) {ws : List Nat} (i0 : ι) (c : Ctx Z F H σ (G i0) (O i0)) (e : Ev (G i0) (O i0) tl (Ls K (xs.map f))) (p0 : P 0 i0)
    (hg : ∀ x i, Gt (G i) (f x) g (G' x i) ws)
    (body : ∀ k x i G1 F H σ (N : St → Hp → Prop), xs[k]? = some x → P k i → Ctx (Z.pin G1) F H σ (G' x i) (O i) → (∀ j F' H' σ', P (k + 1) j → Ctx (Z.pin G1) F' H' σ' (G j) (O j) → N σ' H') → tb ⟨N, r, n, N⟩ σ H)
    (hd : ∀ i F H σ, P xs.length i → Ctx Z F H σ (G i) (O i) → n σ H) : tFor (iList K tl) g tb ⟨n, r, bk, ct⟩ σ H := by
  refine e Z F H σ c _ fun v F1 H1 c1 s1 rv => ?_
  obtain ⟨a, ys, ea, hs, hl⟩ := rv
  have hlen : ys.length = xs.length := by rw [hl.length, List.length_map]
  refine ⟨a, ea, ⟨ys, c1.sub.seq hs⟩, for_list (K := K) (a := a) (xs := ys) (fun k σ H => ∃ i F, P k i ∧ Ctx (Z.pin F1) F H σ (G i) (O i)) ⟨i0, F1, p0, c1.topin (Same.refl _)⟩ (fun k σ H _ ⟨i, F, _, cc⟩ => cc.sub.seq (cc.pin.seq hs)) ?_ ?_⟩
  · rintro k y σ H hy ⟨i, F, p, cc⟩
    have hk : k < xs.length := by rw [← hlen]; exact (List.getElem?_eq_some_iff.mp hy).1
    have hx : xs[k]? = some xs[k] := List.getElem?_eq_getElem hk
    have hz : (xs.map f)[k]? = some (f xs[k]) := by rw [List.getElem?_map, hx]; rfl
    obtain ⟨y', ey, ry⟩ := hl.get hz
    rw [hy] at ey
    cases ey
    refine hg xs[k] i (Z.pin F1) F H σ y (O i) cc ((f xs[k]).mono cc.pin ry) _ fun σ' c' _ => ?_
    exact body k xs[k] i F1 F H σ' _ hx p c' fun j F' H' σ'' pj cj => ⟨j, F', pj, cj⟩
  · rintro σ H ⟨i, F, p, cc⟩
    rw [hlen] at p
    exact hd i F H σ p (cc.unpin c1.pin)
end
end Y

namespace Y
open PySem L2 PySem.Spec
open PyProof.Rows (envOfC)
open C8 (tCut pss_cut)
/-! ## exceptions whose context is None (raised where nothing is handled): the whole chain goes by these -/
abbrev Takes (X : Cx) (W : WX) : Prop := L2N.Takes X W
abbrev PMk (X : Cx) (e : Expr) (t : L2.St → Hp → XK → Prop) : Prop := L2N.PMk X e t
theorem passL {X : Cx} : Passes (L2N.CX X.prog X.w) X E0 := fun _ _ _ _ _ _ _ h => by
  obtain ⟨_, _, _, _, _, _, _, _, _, _, _, _, z⟩ := h
  exact z.elim
theorem takes0 {X : Cx} : Takes X (fun _ _ _ _ => False) := fun _ _ x => by
  obtain ⟨_, _, _, _, _, _, _, _, _, _, _, _, _, _, _, _, z⟩ := x
  exact z.elim
section
variable {P : Program} {w : World} {K : PySem.W.Frag} {mg : Str → Option Value} {base : Heap}
theorem fun_okN {x qual : Str} {st : Stmt} {f : Addr} {fd : FuncData} {N ps : List Str} {k : Nat} {sp : Sp} (F : Fun K x qual st f fd) (S : FnScope N ps (defScope st)) (len : ∀ vs H Q E, sp vs H Q E → vs.length = ps.length)
    (hbody : ∀ (cdv : Value) (A : Around) (outer : List Env) (s : Shared) (H : Hp) (vs : List V) (Q : VK) (E : XK), Room k (A.deeper (envOfC qual (defScope st) s.heap.objs.size f cdv)) → sp vs H Q E →
      ∃ t, PSs (cxOf (L2N.CX P w) P w K mg base N qual (defScope st) f cdv A outer s H E) (defBody st) t ∧ t { nx := fun _ H' => Q .non H', rt := Q } (L2.start N vs) H) : FnOk P w K mg base (L2N.CX P w) (k + 1) f fd ps sp := by
  obtain ⟨oc, od, kV, doc, pm, an, cdv, ct, osl, rfl, lk, hcd⟩ := F.ex
  exact fn_of lk hcd S len fun A outer s H vs Q E hr hsp => hbody cdv A outer s H vs Q E hr hsp
end
section
variable {X : Cx} {x : Str} {c : Value} {body suite : List Stmt} {b₀ : Stmt} {np pos pos' : Pos} {tb : WX → TS} {ts : Addr → Value → Option Addr → TS} {Wout : WX}
/-- try: .. except X: .. -/
theorem ps_tryN (hs : X.stack = X.env :: X.outer) (hf : X.env.frame = some X.env.locals) (hc : Names X x c) (tk : Takes X Wout)
    (hb : ∀ (W : WX) (pn : List (Addr × Obj)) (xe : Value → Shared → Prop), Takes (X.tr pn xe) W → PassesOwn (model X.prog X.w) X.A X.env xe → PSs (X.tr pn xe) body (tb W))
    (hsu : ∀ (a : Addr) (oe : Obj) (cls : Value) (d : Option Addr) (pn : List (Addr × Obj)), L2N.Zn cls d oe → (∃ vs, oe.data = .fields vs) → PSs (X.suite a ((a, oe) :: pn)) (b₀ :: suite) (ts a cls d)) :
    PS X (.Try body [.ExceptHandler (some (.Name x np)) none (b₀ :: suite) pos'] [] [] pos) (fun D σ H => tb (wOnly X.K c ts Wout D) D σ H) :=
  L2N.ps_try_many hs hf tk hb (.cons hc hsu .nil)
end
/-! ## a def of the text, and its promise -/
/-- where the text's def st stands -/
structure Tx (K : PySem.W.Frag) (mg : Str → Option Value) (x : Str) (st : Stmt) (ps : List Str) : Prop where
  ex : ∃ f fd, Fun K x x st f fd ∧ mg x = some (.ref f) ∧ Binds K fd ps []
structure Dn (P : Program) (w : World) (K : PySem.W.Frag) (mg : Str → Option Value) (base : Heap) (k : Nat) (x : Str) (ps : List Str) (sp : Sp) : Prop where
  ex : ∃ f fd, mg x = some (.ref f) ∧ PySem.W.keepIn K (.ref f) = true ∧ Binds K fd ps [] ∧ (∃ oc od osl, K.lookup f = some ⟨oc, od, .func fd, osl⟩) ∧ FnOk P w K mg base (L2N.CX P w) k f fd ps sp
section
variable {P : Program} {w : World} {K : PySem.W.Frag} {mg : Str → Option Value} {base : Heap}
theorem Tx.okX {x : Str} {st : Stmt} {N ps : List Str} {k : Nat} {sp : Sp} (T : Tx K mg x st ps) (S : FnScope N ps (defScope st)) (len : ∀ vs H Q E, sp vs H Q E → vs.length = ps.length)
    (hbody : ∀ (f : Addr) (cdv : Value) (A : Around) (outer : List Env) (s : Shared) (H : Hp) (vs : List V) (Q : VK) (E : XK), Room k (A.deeper (envOfC x (defScope st) s.heap.objs.size f cdv)) → sp vs H Q E →
      ∃ t, PSs (cxOf (L2N.CX P w) P w K mg base N x (defScope st) f cdv A outer s H E) (defBody st) t ∧ t { nx := fun _ H' => Q .non H', rt := Q } (L2.start N vs) H) : Dn P w K mg base (k + 1) x ps sp := by
  obtain ⟨f, fd, F, m, b⟩ := T.ex
  have F' := F
  obtain ⟨oc, od, kV, doc, pm, an, cdv, ct, osl, _, lk, hcd⟩ := F.ex
  exact ⟨f, fd, m, F'.kp, b, ⟨oc, od, osl, lk⟩, fun_okN F' S len (hbody f)⟩
theorem FnOk_x {k : Nat} {f : Addr} {fd : FuncData} {ps : List Str} {sp : Sp} (F : FnOk P w K mg base CX0 k f fd ps sp) : FnOk P w K mg base (L2N.CX P w) k f fd ps sp :=
  ⟨F.len, fun A outer s H args us vs Q E hr he hb hv hs => codeAny_mono (F.run A outer s H args us vs Q E hr he hb hv hs) fun r s' hq => by
    cases r with
    | error e => exact False.elim hq
    | ok fl =>
      cases fl with
      | ret u => exact hq
      | next => exact hq
      | brk => exact hq
      | cont => exact hq⟩
/-- a def that lets nothing out -/
theorem Tx.ok {x : Str} {st : Stmt} {N ps : List Str} {k : Nat} {sp : Sp} (T : Tx K mg x st ps) (S : FnScope N ps (defScope st)) (len : ∀ vs H Q E, sp vs H Q E → vs.length = ps.length)
    (hbody : ∀ (f : Addr) (cdv : Value) (A : Around) (outer : List Env) (s : Shared) (H : Hp) (vs : List V) (Q : VK) (E : XK), Room k (A.deeper (envOfC x (defScope st) s.heap.objs.size f cdv)) → sp vs H Q E →
      ∃ t, PSs (cxOf CX0 P w K mg base N x (defScope st) f cdv A outer s H E).nox (defBody st) t ∧ t { nx := fun _ H' => Q .non H', rt := Q } (L2.start N vs) H) : Dn P w K mg base (k + 1) x ps sp := by
  obtain ⟨f, fd, F, m, b⟩ := T.ex
  have F' := F
  obtain ⟨oc, od, kV, doc, pm, an, cdv, ct, osl, _, lk, hcd⟩ := F.ex
  exact ⟨f, fd, m, F'.kp, b, ⟨oc, od, osl, lk⟩, FnOk_x (F'.ok S len (hbody f))⟩
theorem law_end {k : Nat} {x : Str} {ps : List Str} {sp : Sp} (D : Dn P w K mg base k x ps sp) {f : Addr} {fd : FuncData} {oc : Value} {od : Option Addr} {osl : Array (Option Value)} (m : mg x = some (.ref f)) (l : K.lookup f = some ⟨oc, od, .func fd, osl⟩) :
    FnOk P w K mg base (L2N.CX P w) k f fd ps sp := by
  obtain ⟨f', fd', m', _, _, ⟨oc', od', osl', l'⟩, h⟩ := D.ex
  rw [m] at m'
  cases m'
  rw [l] at l'
  cases l'
  exact h
theorem tx_mk {x : Str} {st : Stmt} {f : Addr} {oc : Value} {od an : Option Addr} {osl : Array (Option Value)} {kV doc pm cdv ct : Value} {ps : List Str} {h : Heap} (X : K.In h) (G : h.Ns mainGlobals mg)
    (a : PySem.W.nsIn K mainGlobals x = some (some (.ref f)))
    (l : K.lookup f = some ⟨oc, od, .func (PySem.W.fnOf x x (defArgs st) (defBody st) (defScope st) .none kV doc pm an cdv ct), osl⟩)
    (c : PySem.W.codeIn K cdv x = true) (k : PySem.W.keepIn K (.ref f) = true)
    (hb : ∀ (kV doc pm : Value) (an : Option Addr) (cdv ct : Value) (us : List Value), us.length = ps.length → bindArgs (PySem.W.fnOf x x (defArgs st) (defBody st) (defScope st) .none kV doc pm an cdv ct) ⟨us, []⟩ = pure (ps.zip us)) : Tx K mg x st ps :=
  ⟨f, _, fun_mk l c k, PySem.W.mg_of X G a, (fun_mk l c k).binds hb⟩
section
variable {X : Cx} {k : Nat} {ps : List Str} {sp : Sp} {x : Str} {p pos : Pos} {e : Expr} {es : List Expr} {t : TA}
theorem pe_d (D : Dn X.prog X.w X.K X.mg X.base k x ps sp) (hr : Room k X.A) (hg : Gl X x) (ha : PA X (e :: es) t) (hdb : (x == ("__debug__" : Str)) = false := by decide)
    (he : starEach (e :: es) X.env = (false, eval e X.env) :: starEach es X.env := by rfl) (hpl : (backTo pos (starEach es X.env)).any (·.1) = false := by rfl) :
    PE X (.Call (.Name x p) (e :: es) [] pos) (tCall sp [] E0 t) := by
  obtain ⟨f, fd, m, kp, b, _, G⟩ := D.ex
  exact pe_call G hr hg m kp b .nil passL ha hdb he hpl
theorem pe_d0 (D : Dn X.prog X.w X.K X.mg X.base k x ps sp) (hr : Room k X.A) (hg : Gl X x) (hdb : (x == ("__debug__" : Str)) = false := by decide) :
    PE X (.Call (.Name x p) [] [] pos) (tCall sp [] E0 tNil) := by
  obtain ⟨f, fd, m, kp, b, _, G⟩ := D.ex
  exact pe_call0 G hr hg m kp b .nil passL hdb
end
section
variable {X : Cx} {k : Nat} {ps : List Str} {sp : Sp} {x : Str} {p pos : Pos} {e : Expr} {es : List Expr} {t : TA} {W : WX}
/-- a call that may raise, in a def (or a try) that lets it out (or takes it) -/
theorem pe_dS (tk : Takes X W) (D : Dn X.prog X.w X.K X.mg X.base k x ps sp) (hr : Room k X.A) (hg : Gl X x) (ha : PA X (e :: es) t) (hdb : (x == ("__debug__" : Str)) = false := by decide)
    (he : starEach (e :: es) X.env = (false, eval e X.env) :: starEach es X.env := by rfl) (hpl : (backTo pos (starEach es X.env)).any (·.1) = false := by rfl) :
    PE X (.Call (.Name x p) (e :: es) [] pos) (tCallS sp (WE W) t) := by
  obtain ⟨f, fd, m, kp, b, _, G⟩ := D.ex
  exact pe_callS G hr hg m kp b (fun σ => L2N.passAt tk σ) ha hdb he hpl
end
end
/-! ## what raises -/
def CtE {α : Type} (args : α → List As) (pre : α → Prop) (res : α → As) (good : α → Prop) (C : Addr) : Sp := fun vs H Q E =>
  ∃ a F, Same F H ∧ All F (args a) vs ∧ pre a ∧ (good a → ∀ v F' H', Ext [] F H F' H' → Same F' H' → (res a).p F' v → Q v H') ∧ (¬ good a → ∀ F' H', Ext [] F H F' H' → Same F' H' → E (.ref C) none H')
theorem CtE.len {α : Type} {args : α → List As} {pre good : α → Prop} {res : α → As} {C : Addr} {n : Nat} (h : ∀ a, (args a).length = n) : ∀ vs H Q E, CtE args pre res good C vs H Q E → vs.length = n := by
  rintro vs H Q E ⟨a, F, _, ha, _⟩
  rw [ha.length, h]
section
variable {Γ : Gm} {Ω : Om} {te ta tb : TE}
theorem ev_callE {α : Type} {args : α → List As} {pre good : α → Prop} {res : α → As} {C : Addr} {E : XK} {ta : TA} (a : α) (h : EvA Γ Ω ta (args a)) (hp : pre a) (hg : good a) : Ev Γ Ω (tCall (CtE args pre res good C) [] E ta) (res a) := fun Z F H σ c Q q =>
  h Z F H σ c _ fun vs F1 H1 c1 s1 rs => ⟨a, F1, c1.sub, by rw [List.append_nil]; exact rs, hp, fun _ v F2 H2 e2 s2 r => q v F2 H2 (c1.step e2 s2) (s1.trans e2) r, fun n => absurd hg n⟩

instance (i j : Int) : Decidable (CPow i j) := inferInstanceAs (Decidable (_ ∧ _ ∧ _))
instance (i j : Int) : Decidable (CMulW i j) := inferInstanceAs (Decidable (_ < _))
instance (i j : Int) : Decidable (CDivW i j) := inferInstanceAs (Decidable (_ ∧ _))
/-- return f(..), f one that may raise -/
theorem st_retE {α : Type} {args : α → List As} {pre good : α → Prop} {res : α → As} {C : Addr} {W : St → XK} {ta : TA} {Z : Bs} {F H : Hp} {σ : L2.St} {n : L2.St → Hp → Prop} {r : VK} {bk ct : L2.St → Hp → Prop} (a : α) (c : Ctx Z F H σ Γ Ω) (h : EvA Γ Ω ta (args a)) (hp : pre a)
    (k1 : good a → ∀ v F' H', Ctx Z F' H' σ Γ Ω → Same F F' → (res a).p F' v → r v H') (k2 : ¬ good a → ∀ F' H', Ctx Z F' H' σ Γ Ω → Same F F' → W σ (.ref C) none H') : tRet (tCallS (CtE args pre res good C) W ta) ⟨n, r, bk, ct⟩ σ H :=
  h Z F H σ c _ fun vs F1 H1 c1 s1 rs => ⟨a, F1, c1.sub, rs, hp, fun g v F2 H2 e2 s2 rv => k1 g v F2 H2 (c1.step e2 s2) (s1.fe.trans e2.fe) rv, fun g F2 H2 e2 s2 => k2 g F2 H2 (c1.step e2 s2) (s1.fe.trans e2.fe)⟩
/-! ## ints in bounds -/
def Bt (n : Nat) (x : Int) : Prop := x.natAbs < 2 ^ n
theorem Bt.up {n m : Nat} {x : Int} (h : Bt n x) (l : n ≤ m) : Bt m x := Nat.lt_of_lt_of_le h (Nat.pow_le_pow_right (by decide) l)
theorem Bt.mul {n m : Nat} {x y : Int} (h : Bt n x) (k : Bt m y) : Bt (n + m) (x * y) := wide_lt h k
theorem Bt.add {n : Nat} {x y : Int} (h : Bt n x) (k : Bt n y) : Bt (n + 1) (x + y) := by
  unfold Bt at *
  rw [Nat.pow_succ]
  omega
theorem Bt.sub {n : Nat} {x y : Int} (h : Bt n x) (k : Bt n y) : Bt (n + 1) (x - y) := by
  unfold Bt at *
  rw [Nat.pow_succ]
  omega
theorem Bt.zero {n : Nat} : Bt n 0 := by unfold Bt; exact Nat.pow_pos (by decide)
theorem Bt.neg {n : Nat} {x : Int} (h : Bt n x) : Bt n (0 - x) := by unfold Bt at *; omega
theorem Bt.le {n : Nat} {x y : Int} (h : Bt n y) (l : x.natAbs ≤ y.natAbs) : Bt n x := Nat.lt_of_le_of_lt l h
theorem Bt.mulW {n m : Nat} {x y : Int} (h : Bt n x) (k : Bt m y) (l : n + m ≤ 900000 := by decide) : CMulW x y := by
  have h' := h.up (Nat.le_succ n)
  have k' := k.up (Nat.le_succ m)
  exact wide_mul h' k' (Nat.succ_pos _) (Nat.succ_pos _) (by omega)
theorem Bt.divW {n : Nat} {x y : Int} (h : 0 < y) (k : Bt n y) (l : n ≤ 8999 := by decide) : CDivW x y := wide_div h (k.up (Nat.le_succ n)) (Nat.succ_pos _) (by omega)

theorem All.one {F : Hp} {R : As} : ∀ {vs : List V}, All F [R] vs → ∃ v, vs = [v] ∧ R.p F v
  | [], h => h.elim
  | [v], h => ⟨v, rfl, h.1⟩
  | _ :: _ :: _, h => h.2.elim
theorem All.two {F : Hp} {R R' : As} : ∀ {vs : List V}, All F [R, R'] vs → ∃ v w, vs = [v, w] ∧ R.p F v ∧ R'.p F w
  | [], h => h.elim
  | [_], h => h.2.elim
  | [v, w], h => ⟨v, w, rfl, h.1, h.2.1⟩
  | _ :: _ :: _ :: _, h => h.2.2.elim
theorem Bt.divP {n : Nat} {x y : Int} (h : 0 < y) (k : Bt n y) (l : n ≤ 8999 := by decide) : CDivP x y := ⟨h, PyProof.noPylong_of_log2 (Bt.divW (x := x) h k l).2⟩
/-! ## built-ins by values -/
theorem rc_abs {n : Int} : RC (fun xs H Q => ∃ i, xs = [.int i] ∧ Q (.int (if i < 0 then -i else i)) H) [I n] (I (n.natAbs : Int)) := fun F H vs s h Q q => by
    obtain ⟨v, rfl, e⟩ := h.one
    cases e
    refine ⟨n, rfl, ?_⟩
    have z : (if n < 0 then -n else n) = (n.natAbs : Int) := by split <;> omega
    rw [z]
    exact q _ F H (Ext.refl _ _ _) s rfl
theorem rc_lenL {K : PySem.W.Frag} {Rs : List As} : RC (fun xs H Q => ∃ p ys, xs = [.ref p] ∧ (SqL K H p ys ∨ SqT K H p ys) ∧ Q (.int ys.length) H) [Ls K Rs] (I (Rs.length : Int)) := fun F H vs s h Q q => by
    obtain ⟨v, rfl, a, xs, e, hs, hl⟩ := h.one
    cases e
    have z := hl.length
    exact ⟨a, xs, rfl, .inl (s.seq hs), by rw [z]; exact q _ F H (Ext.refl _ _ _) s rfl⟩
theorem rc_lenT {K : PySem.W.Frag} {Rs : List As} : RC (fun xs H Q => ∃ p ys, xs = [.ref p] ∧ (SqL K H p ys ∨ SqT K H p ys) ∧ Q (.int ys.length) H) [Tp K Rs] (I (Rs.length : Int)) := fun F H vs s h Q q => by
    obtain ⟨v, rfl, a, xs, e, hs, hl⟩ := h.one
    cases e
    have z := hl.length
    exact ⟨a, xs, rfl, .inr (same_seqT s hs), by rw [z]; exact q _ F H (Ext.refl _ _ _) s rfl⟩
theorem rc_divmod {K : PySem.W.Frag} {C : Int → Int → Prop} {i j : Int} (h : C i j) : RC (fun xs H Q => ∃ i j, xs = [.int i, .int j] ∧ C i j ∧ ∀ p, H p = none → Q (.ref p) (upd H p (.tup [.int (i / j), .int (i % j)]))) [I i, I j] (Tp K [I (i / j), I (i % j)]) := fun F H vs s hv Q q => by
    obtain ⟨v, w, rfl, e, e'⟩ := hv.two
    cases e; cases e'
    refine ⟨i, j, rfl, h, fun p hp => ?_⟩
    obtain ⟨e, s'⟩ := Ext.new (o := .tup [.int (i / j), .int (i % j)]) s hp
    exact q _ _ _ e s' ⟨p, _, rfl, SqT.of upd_same, rfl, rfl, trivial⟩
/-! isinstance -/
/-- the type of what an assertion tells of -/
structure HasTy (K : PySem.W.Frag) (R : As) (t : Value) : Prop where
  ty : ∀ F H v, Same F H → R.p F v → TyX K H v t
theorem ty_int {K : PySem.W.Frag} {n : Int} : HasTy K (I n) (.type "int") := ⟨fun F H v s e => by cases e; exact .base (.int n)⟩
theorem ty_bool {K : PySem.W.Frag} {n : Bool} : HasTy K (B n) (.type "bool") := ⟨fun F H v s e => by cases e; exact .base (.bl n)⟩
theorem ty_tup {K : PySem.W.Frag} {Rs : List As} : HasTy K (Tp K Rs) (.type "tuple") := ⟨fun F H v s e => by
  obtain ⟨a, xs, e, hs, _⟩ := e
  cases e
  rcases hs with (h | ⟨o, h⟩) | ⟨o, its, n, h, hc, _⟩
  · exact .base (.tup (s _ _ h))
  · exact .fTuple (s _ _ h)
  · exact .kTuple h hc⟩
theorem ty_lst {K : PySem.W.Frag} {Rs : List As} : HasTy K (Ls K Rs) (.type "list") := ⟨fun F H v s e => by
  obtain ⟨a, xs, e, hs, _⟩ := e
  cases e
  rcases hs with (h | ⟨o, h⟩) | ⟨o, its, n, h, hc, _⟩
  · exact .base (.lst (s _ _ h))
  · exact .base (.frz (s _ _ h))
  · exact .kList h hc⟩
theorem rc_isi {K : PySem.W.Frag} {R : As} {t u : Value} {c : V} {b : Bool} (hc : ClsV c u) (ht : HasTy K R t) (hk : PySem.W.kitOne K t u = some b) : RC (rIsi K) [R, Cst c] (B b) := fun F H vs s h Q q => by
    obtain ⟨x, y, rfl, r, e⟩ := h.two
    cases e
    exact ⟨x, c, t, u, b, rfl, hc, ht.ty F H x s r, hk, q _ F H (Ext.refl _ _ _) s rfl⟩

theorem rc_list {K : PySem.W.Frag} {Rs : List As} : RC (fun xs H Q => ∃ p ys, xs = [.ref p] ∧ (SqL K H p ys ∨ SqT K H p ys) ∧ ∀ l, H l = none → Q (.ref l) (upd H l (.lst ys))) [Ls K Rs] (Ls K Rs) := fun F H vs s h Q q => by
  obtain ⟨v, rfl, a, xs, e, hs, hl⟩ := h.one
  cases e
  refine ⟨a, xs, rfl, .inl (s.seq hs), fun p hp => ?_⟩
  obtain ⟨e, s'⟩ := Ext.new (o := .lst xs) s hp
  exact q _ _ _ e s' ⟨p, _, rfl, SqL.of upd_same, hl.mono e.fe⟩
/-! pairs of ints, fractions -/
def Fr (K : PySem.W.Frag) (q : Int × Int) : As := Tp K [I q.1, I q.2]
theorem ev_fr {K : PySem.W.Frag} {ta : TA} {a b : Int} (h : EvA Γ Ω ta [I a, I b]) : Ev Γ Ω (tTup ta) (Fr K (a, b)) := ev_tup h (show 2 ≤ 1000 by decide)
theorem ty_fr {K : PySem.W.Frag} {q : Int × Int} : HasTy K (Fr K q) (.type "tuple") := ty_tup
theorem rc_lenF {K : PySem.W.Frag} {q : Int × Int} : RC (fun xs H Q => ∃ p ys, xs = [.ref p] ∧ (SqL K H p ys ∨ SqT K H p ys) ∧ Q (.int ys.length) H) [Fr K q] (I 2) := rc_lenT
/-! tests by chains -/
theorem ev_chain {p1 p2 : Int → Int → Bool} {i j k : Int} {tc : TE} (ha : Ev Γ Ω ta (I i)) (hb : Ev Γ Ω tb (I j)) (hc : Ev Γ Ω tc (I k)) : Ev Γ Ω (tChain (rI0 fun i j => .bl (p1 i j)) (rI0 fun i j => .bl (p2 i j)) ta tb tc) (B (p1 i j && p2 j k)) := fun Z F H σ c Q q =>
  ha Z F H σ c _ fun x F1 H1 c1 s1 rx => hb Z F1 H1 σ c1 _ fun y F2 H2 c2 s2 ry => by
    cases rx; cases ry
    refine ⟨i, j, rfl, rfl, p1 i j, rfl, ?_⟩
    cases e : p1 i j with
    | true =>
      refine iteT (hc Z F2 H2 σ c2 _ fun z F3 H3 c3 s3 rz => ?_)
      cases rz
      exact ⟨j, k, rfl, rfl, q _ F3 H3 c3 (s1.trans (s2.trans s3)) (show V.bl (p2 j k) = V.bl (p1 i j && p2 j k) by rw [e]; rfl)⟩
    | false => exact iteF (q _ F2 H2 c2 (s1.trans s2) (show V.bl false = V.bl (p1 i j && p2 j k) by rw [e]; rfl))
theorem et_chain {p1 p2 : Int → Int → Bool} {i j k : Int} {tc : TE} (ha : Ev Γ Ω ta (I i)) (hb : Ev Γ Ω tb (I j)) (hc : Ev Γ Ω tc (I k)) : EvT Γ Ω (tTest (tChain (rI0 fun i j => .bl (p1 i j)) (rI0 fun i j => .bl (p2 i j)) ta tb tc)) (p1 i j && p2 j k) := et_test (ev_chain ha hb hc)
end
/-! ## blocks -/
section
variable {Z : Bs} {F H F' H' : Hp} {σ σ' : L2.St} {Γ Γ' : Gm} {Ω Ω' : Om} {K : PySem.W.Frag} {n : L2.St → Hp → Prop} {r : VK} {bk ct : L2.St → Hp → Prop} {t1 t2 : TS}
theorem sq (h : t1 ⟨t2 ⟨n, r, bk, ct⟩, r, bk, ct⟩ σ H) : tSeq t1 t2 ⟨n, r, bk, ct⟩ σ H := h
theorem cut {ι : Type} (c : Ctx Z F H σ Γ Ω) (G : ι → Gm) (O : ι → Om) (P : ι → Prop) (h1 : ∀ N : L2.St → Hp → Prop, (∀ i F' H' σ', P i → Ctx Z F' H' σ' (G i) (O i) → N σ' H') → t1 ⟨N, r, bk, ct⟩ σ H) (h2 : ∀ i F' H' σ', P i → Ctx Z F' H' σ' (G i) (O i) → t2 ⟨n, r, bk, ct⟩ σ' H') : tCut t1 t2 ⟨n, r, bk, ct⟩ σ H :=
  ⟨fun σ H => ∃ i F, P i ∧ Ctx Z F H σ (G i) (O i), h1 _ fun i F' H' σ' p c => ⟨i, F', p, c⟩, fun σ H ⟨i, F, p, c⟩ => h2 i F H σ p c⟩
/-- what is known of a slot is some member of a family -/
theorem Ctx.opn {β : Type} {P : β → Prop} {R : β → As} (c : Ctx Z F H σ Γ Ω) (i : Nat) (h : Γ[i]? = some (some (Xs P R))) : ∃ b, P b ∧ Ctx Z F H σ (Γ.set i (some (R b))) Ω := by
  obtain ⟨v, e, b, hp, hr⟩ := c.sat.get h
  have z := c.set i hr
  have e2 : σ.set i (some v) = σ := by
    apply List.ext_getElem?
    intro j
    by_cases hj : i = j
    · subst hj
      rw [List.getElem?_set_self (by have := (List.getElem?_eq_some_iff.mp e).1; exact this), e]
    · rw [List.getElem?_set_ne hj]
  rw [e2] at z
  exact ⟨b, hp, z⟩
theorem nxt (q : n σ H) : tNext ⟨n, r, bk, ct⟩ σ H := q
/-- an error of the text's own, made with a text -/
structure Xc (K : PySem.W.Frag) (mg : Str → Option Value) (C : Addr) (x : Str) : Prop where
  gC : mg x = some (.ref C)
  ex : PySem.W.excIn K C [.type "ValueError", .type "Exception", .type "BaseException", .type "object"] "ValueError.__new__" = true
  kC : PySem.W.keepIn K (.ref C) = true
  sB : PySem.W.subIn K (.ref C) (.type "BaseException") = some true
  tC : PySem.W.typeIn K (.ref C) = some (.type "type")
  iC : PySem.W.isClsIn K C = true
  sC : PySem.W.subIn K (.ref C) (.ref C) = some true
/-- an except clause that names an error's own class takes it -/
theorem exm_own {K : PySem.W.Frag} {S T : Addr} {b : Bool} (h1 : PySem.W.subIn K (.ref S) (.type "BaseException") = some true) (h1' : PySem.W.subIn K (.ref T) (.type "BaseException") = some true) (h2 : PySem.W.isClsIn K T = true) (h3 : PySem.W.typeIn K (.ref T) = some (.type "type")) (h4 : PySem.W.subIn K (.ref S) (.ref T) = some b) :
    PySem.W.exmOne K (.ref S) (.ref T) = some b := by
  have e1 : (PySem.W.subIn K (.ref T) (.type "BaseException") == some true) = true := by rw [h1'] <;> rfl
  have e2 : ((PySem.W.clsIn K T).isSome && PySem.W.typeIn K (.ref T) == some (.type "type")) = true := by
    have h2' : (PySem.W.clsIn K T).isSome = true := h2
    rw [h2', h3] <;> rfl
  show (if (PySem.W.subIn K (.ref T) (.type "BaseException") == some true) = true then (if ((PySem.W.clsIn K T).isSome && PySem.W.typeIn K (.ref T) == some (.type "type")) = true then PySem.W.subIn K (.ref S) (.ref T) else none) else none) = some b
  rw [if_pos e1, if_pos e2]
  exact h4
theorem st_tryset {α : Type} {args : α → List As} {pre good : α → Prop} {res : α → As} {C : Addr} {cl : Value} {ta : TA} {ts : Addr → Value → Option Addr → TS} {Wout : WX} {i : Nat} (a : α) (c : Ctx Z F H σ Γ Ω) (h : EvA Γ Ω ta (args a)) (hp : pre a) (te : PySem.W.exmOne K (.ref C) cl = some true)
    (k1 : good a → ∀ F' H' σ', Ctx Z F' H' σ' (Γ.set i (some (res a))) Ω → Same F F' → n σ' H') (k2 : ¬ good a → ∀ a0 F' H', Ctx Z F' H' σ Γ Ω → Same F F' → ts a0 (.ref C) none ⟨n, r, bk, ct⟩ σ H') :
    tAsg (tCallS (CtE args pre res good C) (WE (wOnly K cl ts Wout ⟨n, r, bk, ct⟩)) ta) (gName i) ⟨n, r, bk, ct⟩ σ H :=
  h Z F H σ c _ fun vs F1 H1 c1 s1 rs => ⟨a, F1, c1.sub, rs, hp, fun g v F2 H2 e2 s2 rv => k1 g F2 H2 _ ((c1.step e2 s2).set i rv) (s1.fe.trans e2.fe), fun g F2 H2 e2 s2 => ⟨true, te, fun _ a0 _ => k2 g a0 F2 H2 (c1.step e2 s2) (s1.fe.trans e2.fe), fun z => Bool.noConfusion z⟩⟩
end
theorem ev_k {Γ : Gm} {Ω : Om} {te : TE} {m n : Int} (h : Ev Γ Ω te (I m)) (e : m = n) : Ev Γ Ω te (I n) := e ▸ h
/-! ## the law -/
def LawSp (K : PySem.W.Frag) : Sp := CtF (fun ns : List Int => [Ls K (ns.map fun n => I n)]) (fun ns => ns.length ≤ 63) (fun _ => B true)
theorem all_ints {F : Hp} : ∀ ns : List Int, All F (ns.map fun n => I n) (ns.map V.int)
  | [] => trivial
  | _ :: r => ⟨rfl, all_ints r⟩
theorem law_start {K : PySem.W.Frag} {H : Hp} {a : Addr} {ns : List Int} (hl : ns.length ≤ 63) (hS : SqL K H a (ns.map V.int)) : LawSp K [.ref a] H (fun v _ => v = .bl true) (fun _ _ _ => False) :=
  ⟨ns, H, Same.refl H, ⟨⟨a, _, rfl, hS, all_ints ns⟩, trivial⟩, hl, fun v F' H' _ _ r => r⟩
end Y

namespace Y
open PySem L2
theorem gcd_turn {x y : Int} (hx : 0 ≤ x) (hy : 0 < y) : Int.gcd y (x % y) = Int.gcd x y := by
  obtain ⟨a, rfl⟩ := Int.eq_ofNat_of_zero_le hx
  obtain ⟨b, rfl⟩ := Int.eq_ofNat_of_zero_le (Int.le_of_lt hy)
  show Nat.gcd b (a % b) = Nat.gcd a b
  rw [Nat.gcd_comm b (a % b), ← Nat.gcd_rec, Nat.gcd_comm]
/-- the cell that a law draws by -/
def cell (ns : List Int) (k : Int) : Int := if k < (ns.length : Int) then ns.getD k.toNat 0 else 0
theorem atI_ints {ns : List Int} {k : Int} (h0 : 0 ≤ k) (h : k < (ns.length : Int)) : atI (ns.map fun n => I n) k = some (I (cell ns k)) := by
  have hk : k.toNat < ns.length := by omega
  have ek : k = ((k.toNat : Nat) : Int) := by omega
  have z : cell ns k = ns[k.toNat] := by
    unfold cell
    rw [if_pos h, List.getD_eq_getElem?_getD, List.getElem?_eq_getElem hk]; rfl
  rw [z]
  generalize hj : k.toNat = j at hk ek
  subst ek
  refine (atI_nat (xs := ns.map fun n => I n) (by rw [List.getElem?_map, List.getElem?_eq_getElem hk]; rfl)).trans ?_
  simp only [hj]
theorem bt_one (n : Nat) : Bt (n + 1) 1 := Nat.one_lt_two_pow (Nat.succ_ne_zero n)
theorem gcd_bt {x y : Int} {n : Nat} (h : Bt n y) (hy : y ≠ 0) : Bt n (Int.gcd x y : Int) := by
  have e := Nat.le_of_dvd (Int.natAbs_pos.mpr hy) (Int.natAbs_dvd_natAbs.mpr (Int.gcd_dvd_right x y))
  exact h.le e
theorem gcd_pos {x y : Int} (hy : y ≠ 0) : (0 : Int) < (Int.gcd x y : Int) := by
  have : Int.gcd x y ≠ 0 := fun e => hy (Int.gcd_eq_zero_iff.mp e).2
  omega
/-! fractions: a fraction is the rational number that it tells -/
def Fq (K : PySem.W.Frag) (r : Rat) : As := Fr K (r.num, (r.den : Int))
theorem ty_fq {K : PySem.W.Frag} {r : Rat} : HasTy K (Fq K r) (.type "tuple") := ty_tup
theorem rc_lenQ {K : PySem.W.Frag} {r : Rat} : RC (fun xs H Q => ∃ p ys, xs = [.ref p] ∧ (SqL K H p ys ∨ SqT K H p ys) ∧ Q (.int ys.length) H) [Fq K r] (I 2) := rc_lenT
def Sz (r : Rat) : Prop := Bt 4400 r.num ∧ Bt 4400 (r.den : Int)
theorem fr_of (t b : Int) (hb : 0 < b) : (t / (Int.gcd t b : Int), b / (Int.gcd t b : Int)) = ((Rat.divInt t b).num, ((Rat.divInt t b).den : Int)) := by
  have h1 : (Rat.divInt t b).num = t / (Int.gcd t b : Int) := by rw [Rat.num_divInt, Int.sign_eq_one_of_pos hb, Int.one_mul, Int.gcd_comm]
  have h2 : ((Rat.divInt t b).den : Int) = b / (Int.gcd t b : Int) := by
    rw [Rat.den_divInt, if_neg (by omega), Int.gcd_comm]
    rw [Int.natCast_ediv, Int.natAbs_of_nonneg (by omega)]
  rw [h1, h2]
theorem fr_neg (t b : Int) (hb : b < 0) : ((0 - t) / (Int.gcd (0 - t) (0 - b) : Int), (0 - b) / (Int.gcd (0 - t) (0 - b) : Int)) = ((Rat.divInt t b).num, ((Rat.divInt t b).den : Int)) := by
  have e : Rat.divInt t b = Rat.divInt (0 - t) (0 - b) := by rw [Int.zero_sub, Int.zero_sub, Rat.neg_divInt_neg]
  rw [e]
  exact fr_of _ _ (by omega)
theorem r_den0 (a : Rat) : (a.den : Int) ≠ 0 := by have := a.den_nz; omega
theorem r_den1 (a : Rat) : (0 : Int) < a.den := by have := a.den_nz; omega
theorem r_add (a b : Rat) : Rat.divInt (a.num * b.den + b.num * a.den) (a.den * b.den) = a + b := by
  have := Rat.divInt_add_divInt a.num b.num (r_den0 a) (r_den0 b)
  rw [← this, Rat.num_divInt_den, Rat.num_divInt_den]
theorem r_sub (a b : Rat) : Rat.divInt (a.num * b.den - b.num * a.den) (a.den * b.den) = a - b := by
  have := Rat.divInt_sub_divInt a.num b.num (r_den0 a) (r_den0 b)
  rw [← this, Rat.num_divInt_den, Rat.num_divInt_den]
theorem r_mul (a b : Rat) : Rat.divInt (a.num * b.num) (a.den * b.den) = a * b := by
  have := Rat.divInt_mul_divInt a.num b.num (d₁ := a.den) (d₂ := b.den)
  rw [← this, Rat.num_divInt_den, Rat.num_divInt_den]
theorem r_div (a b : Rat) : Rat.divInt (a.num * b.den) (a.den * b.num) = a / b := by
  have := Rat.divInt_mul_divInt a.num b.den (d₁ := a.den) (d₂ := b.num)
  rw [← this, Rat.num_divInt_den, Rat.div_def]
  congr 1
  rw [Rat.inv_def]
theorem r_lt (a b : Rat) : decide (a.num * b.den < b.num * a.den) = decide (a < b) := by simp [Rat.lt_iff]
theorem r_cross {t b : Int} (hb : b ≠ 0) : (Rat.divInt t b).num * b = t * ((Rat.divInt t b).den : Int) := (Rat.divInt_eq_divInt_iff (r_den0 _) hb).mp (Rat.num_divInt_den _)
theorem r_red (a : Rat) : Int.gcd a.num a.den = 1 := a.reduced
theorem Sz.int {n : Int} (h : Bt 4400 n) : Sz (n : Rat) := ⟨h, by show Bt 4400 1; unfold Bt; exact Nat.one_lt_two_pow (by decide)⟩
theorem bt_num {n : Nat} {t b : Int} (h : Bt n t) (hb : b ≠ 0) : Bt n (Rat.divInt t b).num := by
  rcases Int.lt_or_gt_of_ne hb with hn | hn
  · have e := congrArg Prod.fst (fr_neg t b hn)
    dsimp only at e
    rw [← e]
    exact h.neg.le (Int.natAbs_ediv_le_natAbs _ _)
  · have e := congrArg Prod.fst (fr_of t b hn)
    dsimp only at e
    rw [← e]
    exact h.le (Int.natAbs_ediv_le_natAbs _ _)
theorem bt_den {n : Nat} {t b : Int} (h : Bt n b) (hb : b ≠ 0) : Bt n ((Rat.divInt t b).den : Int) := by
  rcases Int.lt_or_gt_of_ne hb with hn | hn
  · have e := congrArg Prod.snd (fr_neg t b hn)
    dsimp only at e
    rw [← e]
    exact h.neg.le (Int.natAbs_ediv_le_natAbs _ _)
  · have e := congrArg Prod.snd (fr_of t b hn)
    dsimp only at e
    rw [← e]
    exact h.le (Int.natAbs_ediv_le_natAbs _ _)
/-- what a law builds: some fraction, not too long -/
def Bq (n : Nat) (r : Rat) : Prop := Bt n r.num ∧ Bt n (r.den : Int)
theorem Bq.sz {n : Nat} {r : Rat} (h : Bq n r) (l : n ≤ 4400 := by decide) : Sz r := ⟨h.1.up l, h.2.up l⟩
theorem Bq.up {n m : Nat} {r : Rat} (h : Bq n r) (l : n ≤ m := by decide) : Bq m r := ⟨h.1.up l, h.2.up l⟩
theorem Bq.add {n m : Nat} {a b : Rat} (h : Bq n a) (k : Bq m b) : Bq (n + m + 1) (a + b) := by
  rw [← r_add]
  have z : (a.den : Int) * b.den ≠ 0 := Int.mul_ne_zero (r_den0 a) (r_den0 b)
  have e := k.1.mul h.2
  rw [Nat.add_comm] at e
  exact ⟨bt_num ((h.1.mul k.2).add e) z, bt_den ((h.2.mul k.2).up (Nat.le_succ _)) z⟩
theorem Bq.sub {n m : Nat} {a b : Rat} (h : Bq n a) (k : Bq m b) : Bq (n + m + 1) (a - b) := by
  rw [← r_sub]
  have z : (a.den : Int) * b.den ≠ 0 := Int.mul_ne_zero (r_den0 a) (r_den0 b)
  have e := k.1.mul h.2
  rw [Nat.add_comm] at e
  exact ⟨bt_num ((h.1.mul k.2).sub e) z, bt_den ((h.2.mul k.2).up (Nat.le_succ _)) z⟩
theorem Bq.mul {n m : Nat} {a b : Rat} (h : Bq n a) (k : Bq m b) : Bq (n + m) (a * b) := by
  rw [← r_mul]
  have z : (a.den : Int) * b.den ≠ 0 := Int.mul_ne_zero (r_den0 a) (r_den0 b)
  exact ⟨bt_num (h.1.mul k.1) z, bt_den (h.2.mul k.2) z⟩
theorem Bq.div {n m : Nat} {a b : Rat} (h : Bq n a) (k : Bq m b) (hb : b ≠ 0) : Bq (n + m) (a / b) := by
  rw [← r_div]
  have z : (a.den : Int) * b.num ≠ 0 := Int.mul_ne_zero (r_den0 a) (fun e => hb (Rat.num_eq_zero.mp e))
  exact ⟨bt_num (h.1.mul k.2) z, bt_den (h.2.mul k.1) z⟩
def Sq (K : PySem.W.Frag) (n : Nat) : As := Xs (Bq n) (Fq K)
theorem sq_of {K : PySem.W.Frag} {n : Nat} {r : Rat} {F : Hp} {v : V} (h : (Fq K r).p F v) (b : Bq n r) : (Sq K n).p F v := ⟨r, b, h⟩
/-- a fraction handed out of two ints -/
theorem ev_fq {Γ : Gm} {Ω : Om} {K : PySem.W.Frag} {te : TE} {a b : Int} {r : Rat} (h : Ev Γ Ω te (Fr K (a, b))) (e : (a, b) = (r.num, (r.den : Int))) : Ev Γ Ω te (Fq K r) := by
  unfold Fq
  rw [← e]
  exact h
theorem ev_frI {Γ : Gm} {Ω : Om} {K : PySem.W.Frag} {ta : TA} {a : Int} (h : EvA Γ Ω ta [I a, I 1]) : Ev Γ Ω (tTup ta) (Fq K (a : Rat)) := ev_fr h
/-- the same fraction with the other sign -/
theorem fq_neg {K : PySem.W.Frag} {Γ : Gm} {Ω : Om} {te : TE} {x : Rat} (h : Ev Γ Ω te (Fr K (0 - x.num, (x.den : Int)))) : Ev Γ Ω te (Fq K (-x)) := ev_fq h (by
  rw [Int.zero_sub]; rfl)
theorem Bq.neg {n : Nat} {x : Rat} (h : Bq n x) : Bq n (-x) := ⟨by
  have e := h.1.neg
  rw [Int.zero_sub] at e; exact e, h.2⟩
theorem Bq.zero {n : Nat} : Bq (n + 1) 0 := ⟨Bt.zero, bt_one n⟩
end Y

namespace Y
open PySem L2
/-! ## lists: those that stand still, those that are owned -/
/-- what an owned list is known to hold -/
structure RdL (A : OA) (Rs : List As) : Prop where
  rd : ∀ F o, A.p F o → ∃ xs, o = .lst xs ∧ All F Rs xs
theorem rdL {Rs : List As} : RdL (oL Rs) Rs := ⟨fun _ _ h => h⟩
/-- just these values -/
def oX (xs : List V) (Rs : List As) : OA := ⟨fun F o => o = .lst xs ∧ All F Rs xs, fun s h => ⟨h.1, h.2.mono s⟩⟩
theorem rdX {xs : List V} {Rs : List As} : RdL (oX xs Rs) Rs := ⟨fun _ _ h => ⟨xs, h.1, h.2⟩⟩
def cutA (Rs : List As) (lo hi : Option Int) : List As := (Rs.drop (HT.sIx Rs.length 0 lo)).take (HT.sIx Rs.length Rs.length hi - HT.sIx Rs.length 0 lo)
theorem All.drop {F : Hp} : ∀ (n : Nat) {Rs : List As} {xs : List V}, All F Rs xs → All F (Rs.drop n) (xs.drop n)
  | 0, _, _, h => h
  | n + 1, [], [], _ => trivial
  | n + 1, _ :: _, _ :: _, h => All.drop n h.2
  | _ + 1, [], _ :: _, h => h.elim
  | _ + 1, _ :: _, [], h => h.elim
theorem All.take {F : Hp} : ∀ (n : Nat) {Rs : List As} {xs : List V}, All F Rs xs → All F (Rs.take n) (xs.take n)
  | 0, _, _, _ => trivial
  | n + 1, [], [], _ => trivial
  | n + 1, _ :: _, _ :: _, h => ⟨h.1, All.take n h.2⟩
  | _ + 1, [], _ :: _, h => h.elim
  | _ + 1, _ :: _, [], h => h.elim
theorem All.rev {F : Hp} : ∀ {Rs : List As} {xs : List V}, All F Rs xs → All F Rs.reverse xs.reverse
  | [], [], _ => trivial
  | R :: Rs, x :: xs, h => by
    rw [List.reverse_cons, List.reverse_cons]
    exact All.app (All.rev h.2) ⟨h.1, trivial⟩
  | [], _ :: _, h => h.elim
  | _ :: _, [], h => h.elim
section
variable {Z : Bs} {F H F' H' : Hp} {σ σ' : L2.St} {Γ Γ' : Gm} {Ω Ω' : Om} {K : PySem.W.Frag} {te ta tb : TE} {R Rx Ry : As} {Rs Ss : List As}
/-- an expression whose value is a list of such -/
def Lk (K : PySem.W.Frag) (Γ : Gm) (Ω : Om) (te : TE) (Rs : List As) : Prop := ∀ (Z : Bs) (F H : Hp) (σ : L2.St), Ctx Z F H σ Γ Ω → ∀ Q : VK, (∀ a F' H', Ctx Z F' H' σ Γ Ω → Ext [] F H F' H' → (∀ F2 H2, Ctx Z F2 H2 σ Γ Ω → Same F' F2 → ∃ xs, SqL K H2 a xs ∧ All F2 Rs xs) → Q (.ref a) H') → te σ H Q
theorem lk (h : Ev Γ Ω te (Ls K Rs)) : Lk K Γ Ω te Rs := fun Z F H σ c Q q => h Z F H σ c Q fun v F1 H1 c1 s1 r => by
  obtain ⟨a, xs, e, hs, hl⟩ := r
  subst e
  exact q a F1 H1 c1 s1 fun F2 H2 c2 s2 => ⟨xs, c2.sub.seq (s2.seq hs), hl.mono s2⟩
theorem lko {p : Addr} {A : OA} {j : Nat} (h : Ev Γ Ω te (Rf p)) (hm : Ω[j]? = some (p, A)) (hA : RdL A Rs) : Lk K Γ Ω te Rs := fun Z F H σ c Q q => h Z F H σ c Q fun v F1 H1 c1 s1 r => by
  cases r
  refine q p F1 H1 c1 s1 fun F2 H2 c2 s2 => ?_
  obtain ⟨_, o, h2, hp⟩ := c2.own _ (List.mem_of_getElem? hm)
  obtain ⟨xs, e, hl⟩ := hA.rd _ _ hp
  exact ⟨xs, SqL.of (by rw [h2, e]), hl⟩
theorem ev_ixLk {i : Int} (ha : Lk K Γ Ω ta Rs) (hb : Ev Γ Ω tb (I i)) (h : atI Rs i = some R) : Ev Γ Ω (tOp (rIxL K) ta tb) R := fun Z F H σ c Q q =>
  ha Z F H σ c _ fun a F1 H1 c1 s1 hs => hb Z F1 H1 σ c1 _ fun y F2 H2 c2 s2 ry => by
    obtain ⟨xs, hs2, hl⟩ := hs F2 H2 c2 s2.fe
    obtain ⟨v, e1, r⟩ := atI_all hl h
    exact ⟨a, xs, i, v, rfl, ry, hs2, e1, q v F2 H2 c2 (s1.trans s2) r⟩
theorem ev_lenLk (ha : Lk K Γ Ω ta Rs) : Ev Γ Ω (tCB (fun xs H Q => ∃ p ys, xs = [.ref p] ∧ (SqL K H p ys ∨ SqT K H p ys) ∧ Q (.int ys.length) H) (tCons ta tNil)) (I (Rs.length : Int)) := fun Z F H σ c Q q =>
  ha Z F H σ c _ fun a F1 H1 c1 s1 hs => by
    obtain ⟨xs, hs1, hl⟩ := hs F1 H1 c1 (Same.refl _)
    refine ⟨a, xs, rfl, .inl hs1, ?_⟩
    rw [hl.length]
    exact q _ F1 H1 c1 s1 rfl
theorem new_ls {p : Addr} {xs : List V} (c : Ctx Z F H σ Γ Ω) (hl : All F Rs xs) (hp : H p = none) : ∃ F' H', H' = upd H p (.lst xs) ∧ Ctx Z F' H' σ Γ Ω ∧ Ext [] F H F' H' ∧ (Ls K Rs).p F' (.ref p) := by
  obtain ⟨e, s⟩ := Ext.new (o := .lst xs) c.sub hp
  exact ⟨_, _, rfl, c.step e s, e, p, xs, rfl, SqL.of upd_same, hl.mono e.fe⟩
theorem ev_listLk (ha : Lk K Γ Ω ta Rs) : Ev Γ Ω (tCB (fun xs H Q => ∃ p ys, xs = [.ref p] ∧ (SqL K H p ys ∨ SqT K H p ys) ∧ ∀ l, H l = none → Q (.ref l) (upd H l (.lst ys))) (tCons ta tNil)) (Ls K Rs) := fun Z F H σ c Q q =>
  ha Z F H σ c _ fun a F1 H1 c1 s1 hs => by
    obtain ⟨xs, hs1, hl⟩ := hs F1 H1 c1 (Same.refl _)
    refine ⟨a, xs, rfl, .inl hs1, fun p hp => ?_⟩
    obtain ⟨F2, H2, e, c2, s2, r⟩ := new_ls (K := K) c1 hl hp
    rw [← e]
    exact q _ F2 H2 c2 (s1.trans s2) r
theorem ev_rev (ha : Lk K Γ Ω ta Rs) : Ev Γ Ω (tRevL K ta) (Ls K Rs.reverse) := fun Z F H σ c Q q =>
  ha Z F H σ c _ fun a F1 H1 c1 s1 hs => by
    obtain ⟨xs, hs1, hl⟩ := hs F1 H1 c1 (Same.refl _)
    refine ⟨a, xs, rfl, hs1, fun p hp => ?_⟩
    obtain ⟨F2, H2, e, c2, s2, r⟩ := new_ls (K := K) c1 hl.rev hp
    rw [← e]
    exact q _ F2 H2 c2 (s1.trans s2) r
def EvO (Γ : Gm) (Ω : Om) (to : TO) (o : Option Int) : Prop := ∀ (Z : Bs) (F H : Hp) (σ : L2.St), Ctx Z F H σ Γ Ω → ∀ Q : Option Int → Hp → Prop, (∀ F' H', Ctx Z F' H' σ Γ Ω → Ext [] F H F' H' → Q o H') → to σ H Q
theorem eo_none : EvO Γ Ω tNoPart none := fun Z F H σ c Q q => q F H c (Ext.refl _ _ _)
theorem eo_some {i : Int} (h : Ev Γ Ω te (I i)) : EvO Γ Ω (tPart te) (some i) := fun Z F H σ c Q q => h Z F H σ c _ fun v F1 H1 c1 s1 r => ⟨i, r, q F1 H1 c1 s1⟩
theorem ev_slLk {tl th : TO} {lo hi : Option Int} (ha : Lk K Γ Ω ta Rs) (h1 : EvO Γ Ω tl lo) (h2 : EvO Γ Ω th hi) : Ev Γ Ω (tSl (rSlL K) ta tl th) (Ls K (cutA Rs lo hi)) := fun Z F H σ c Q q =>
  ha Z F H σ c _ fun a F1 H1 c1 s1 hs => h1 Z F1 H1 σ c1 _ fun F2 H2 c2 s2 => h2 Z F2 H2 σ c2 _ fun F3 H3 c3 s3 => by
    obtain ⟨xs, hs1, hl⟩ := hs F3 H3 c3 (s2.trans s3).fe
    refine ⟨a, xs, rfl, hs1, fun p hp => ?_⟩
    have hz : All F3 (cutA Rs lo hi) (cutV xs lo hi) := by
      unfold cutA cutV
      rw [hl.length]
      exact (hl.drop _).take _
    obtain ⟨F4, H4, e, c4, s4, r⟩ := new_ls (K := K) c3 hz hp
    rw [← e]
    exact q _ F4 H4 c4 (s1.trans (s2.trans (s3.trans s4))) r
theorem cutA_to {α : Type} {f : α → As} {xs : List α} {k : Nat} : cutA (xs.map f) none (some (k : Int)) = (xs.take k).map f := by
  unfold cutA
  rw [HT.sIx_nat, HT.sIx_none, List.length_map, List.drop_zero, Nat.sub_zero, List.map_take]
  by_cases h : k ≤ xs.length
  · rw [Nat.min_eq_left h]
  · rw [Nat.min_eq_right (by omega), List.take_of_length_le (by rw [List.length_map]; omega), List.take_of_length_le (by rw [List.length_map]; omega)]
theorem cutA_most {α : Type} {f : α → As} {xs : List α} : cutA (xs.map f) none (some (-1)) = xs.dropLast.map f := by
  unfold cutA HT.sIx
  simp only [List.length_map, List.drop_zero, Nat.sub_zero]
  rw [if_pos (by decide), List.dropLast_eq_take, ← List.map_take]
  congr 2
  omega
end
/-! ## lists that are made and grow -/
section
variable {Z : Bs} {F H F' H' : Hp} {σ σ' : L2.St} {Γ Γ' : Gm} {Ω Ω' : Om} {K : PySem.W.Frag} {te ta tb : TE} {R Rx Ry : As} {Rs Ss : List As} {n : L2.St → Hp → Prop} {r : VK} {bk ct : L2.St → Hp → Prop}
theorem Ctx.grow {p : Addr} {o : HO} {A : OA} (c : Ctx Z F H σ Γ Ω) (hp : H p = none) (hA : A.p F o) : Ctx Z F (upd H p o) σ Γ ((p, A) :: Ω) := by
  have e := Ext.newH (F := F) (o := o) hp
  have hf : F p = none := c.sub.free hp
  have np : ∀ x ∈ Ω, x.1 ≠ p := fun x hx z => by
    obtain ⟨_, o', h2, _⟩ := c.own x hx
    rw [z, hp] at h2
    cases h2
  refine ⟨c.sat, fun a u q => ?_, fun x hx => ?_, ?_, fun x hx => ?_, c.ext.trans (e.wid fun _ h => absurd h List.not_mem_nil), c.pin⟩
  · rw [upd_ne (ne_of_none q hf)]
    exact c.sub a u q
  · rcases List.mem_cons.mp hx with z | hx
    · subst z
      exact ⟨hf, o, upd_same, hA⟩
    · obtain ⟨h1, o', h2, h3⟩ := c.own x hx
      exact ⟨h1, o', by rw [upd_ne (np x hx)]; exact h2, h3⟩
  · rw [List.map_cons, List.nodup_cons]
    refine ⟨fun hx => ?_, c.nd⟩
    obtain ⟨x, hx, z⟩ := List.mem_map.mp hx
    exact np x hx z
  · rcases List.mem_cons.mp hx with z | hx
    · subst z
      exact .inr (.inl (c.ext.dm _ hp))
    · exact c.loc x hx
theorem Ctx.wr {p : Addr} {A : OA} {j : Nat} (c : Ctx Z F H σ Γ Ω) (hm : Ω[j]? = some (p, A)) (hro : Z.ro = []) : p ∈ Z.ft ∨ Z.H p = none := by
  rcases c.loc _ (List.mem_of_getElem? hm) with l | l | l
  · exact .inl l
  · exact .inr l
  · rw [hro] at l
    exact absurd l List.not_mem_nil
/-- what is owned changes -/
theorem Ctx.chg {p : Addr} {o : HO} {A A' : OA} {j : Nat} (c : Ctx Z F H σ Γ Ω) (hm : Ω[j]? = some (p, A)) (hA : A'.p F o) (hw : p ∈ Z.ft ∨ Z.H p = none) : Ctx Z F (upd H p o) σ Γ (Ω.set j (p, A')) := by
  have hmem := List.mem_of_getElem? hm
  have hj : j < Ω.length := (List.getElem?_eq_some_iff.mp hm).1
  obtain ⟨hf, o0, h0, _⟩ := c.own _ hmem
  have other : ∀ (i : Nat) (x : Addr × OA), i ≠ j → Ω[i]? = some x → x.1 ≠ p := fun i x hi hx z => by
    have a1 : (Ω.map (·.1))[i]? = some p := by rw [List.getElem?_map, hx, ← z]; rfl
    have a2 : (Ω.map (·.1))[j]? = some p := by rw [List.getElem?_map, hm]; rfl
    exact hi (nd_ix c.nd a1 a2)
  have look : ∀ x ∈ Ω.set j (p, A'), x = (p, A') ∨ (x ∈ Ω ∧ x.1 ≠ p) := fun x hx => by
    obtain ⟨i, hi⟩ := List.getElem?_of_mem hx
    by_cases z : j = i
    · subst z
      rw [List.getElem?_set_self hj] at hi
      exact .inl (Option.some.inj hi).symm
    · rw [List.getElem?_set_ne z] at hi
      exact .inr ⟨List.mem_of_getElem? hi, other i x (Ne.symm z) hi⟩
  refine ⟨c.sat, fun a u q => ?_, fun x hx => ?_, ?_, fun x hx => ?_, ?_, c.pin⟩
  · rw [upd_ne (ne_of_none q hf)]
    exact c.sub a u q
  · rcases look x hx with z | ⟨hx, z⟩
    · subst z
      exact ⟨hf, o, upd_same, hA⟩
    · obtain ⟨h1, o', h2, h3⟩ := c.own x hx
      exact ⟨h1, o', by rw [upd_ne z]; exact h2, h3⟩
  · rw [List.map_set]
    have e : (Ω.map (·.1)).set j p = Ω.map (·.1) := by
      have a2 : (Ω.map (·.1))[j]? = some p := by rw [List.getElem?_map, hm]; rfl
      apply List.ext_getElem?
      intro i
      by_cases z : j = i
      · subst z
        rw [List.getElem?_set_self (by rw [List.length_map]; exact hj), a2]
      · rw [List.getElem?_set_ne z]
    rw [e]
    exact c.nd
  · rcases look x hx with z | ⟨hx, z⟩
    · subst z
      exact (c.loc _ hmem : p ∈ _ ∨ _)
    · exact c.loc x hx
  · have l := hw
    refine ⟨c.ext.fe, fun a u q na => ?_, fun a q => ?_, c.ext.nw⟩
    · have z : a ≠ p := fun z => by
        subst z
        rcases l with l | l
        · exact na l
        · rw [l] at q; cases q
      rw [upd_ne z]
      exact c.ext.fr a u q na
    · by_cases z : a = p
      · subst z
        rw [upd_same] at q
        cases q
      · rw [upd_ne z] at q
        exact c.ext.dm a q
/-- an owned list that nobody changes any more -/
theorem Ctx.frz {p : Addr} {Rs : List As} {A : OA} {j : Nat} (c : Ctx Z F H σ Γ Ω) (hm : Ω[j]? = some (p, A)) (hA : RdL A Rs) (hz : Z.ft = []) (hro : Z.ro = []) : ∃ F', Same F F' ∧ Ctx Z F' H σ Γ (Ω.eraseIdx j) ∧ (Ls K Rs).p F' (.ref p) := by
  have hmem := List.mem_of_getElem? hm
  have hj : j < Ω.length := (List.getElem?_eq_some_iff.mp hm).1
  obtain ⟨hf, o0, h0, hA0⟩ := c.own _ hmem
  obtain ⟨xs, e, hl⟩ := hA.rd _ _ hA0
  dsimp only at hf h0
  have s : Same F (upd F p (.lst xs)) := fun a u q => by rw [upd_ne (ne_of_none q hf)]; exact q
  have hzp : Z.H p = none := by
    rcases c.wr hm hro with l | l
    · rw [hz] at l; exact absurd l List.not_mem_nil
    · exact l
  have other : ∀ x ∈ Ω.eraseIdx j, x ∈ Ω ∧ x.1 ≠ p := fun x hx => by
    have hx' := List.mem_of_mem_eraseIdx hx
    refine ⟨hx', fun z => ?_⟩
    have nd2 : ((Ω.eraseIdx j).map (·.1)).Nodup := (List.eraseIdx_sublist Ω j).map _ |>.nodup c.nd
    obtain ⟨i, hi⟩ := List.getElem?_of_mem hx
    rw [List.getElem?_eraseIdx] at hi
    split at hi
    · have a1 : (Ω.map (·.1))[i]? = some p := by rw [List.getElem?_map, hi, ← z]; rfl
      have a2 : (Ω.map (·.1))[j]? = some p := by rw [List.getElem?_map, hm]; rfl
      have := nd_ix c.nd a1 a2
      omega
    · have a1 : (Ω.map (·.1))[i + 1]? = some p := by rw [List.getElem?_map, hi, ← z]; rfl
      have a2 : (Ω.map (·.1))[j]? = some p := by rw [List.getElem?_map, hm]; rfl
      have := nd_ix c.nd a1 a2
      omega
  refine ⟨upd F p (.lst xs), s, ⟨c.sat.mono s, fun a u q => ?_, fun x hx => ?_, ((List.eraseIdx_sublist Ω j).map _).nodup c.nd, fun x hx => c.loc x (other x hx).1, ⟨c.ext.fe.trans s, c.ext.fr, c.ext.dm, fun a h1 h2 => ?_⟩, c.pin.trans s⟩, p, xs, rfl, SqL.of upd_same, hl.mono s⟩
  · by_cases z : a = p
    · subst z
      rw [upd_same] at q
      rw [h0, e]
      exact q
    · rw [upd_ne z] at q
      exact c.sub a u q
  · obtain ⟨hx1, hx2⟩ := other x hx
    obtain ⟨h1, o', h2, h3⟩ := c.own x hx1
    exact ⟨by rw [upd_ne hx2]; exact h1, o', h2, x.2.mono s h3⟩
  · have z : a ≠ p := fun z => h1 (by rw [z]; exact hzp)
    rw [upd_ne z]
    exact c.ext.nw a h1 h2
theorem st_asgX {β : Type} {P : β → Prop} {Rb : β → As} {g : TG} {G' : β → Gm} {ws : List Nat} (c : Ctx Z F H σ Γ Ω) (e : Ev Γ Ω te (Xs P Rb)) (hg : ∀ b, Gt Γ (Rb b) g (G' b) ws) (k : ∀ b F' H' σ', P b → Ctx Z F' H' σ' (G' b) Ω → Same F F' → n σ' H') : tAsg te g ⟨n, r, bk, ct⟩ σ H :=
  e Z F H σ c _ fun v F1 H1 c1 s1 rv => by
    obtain ⟨b, hb, rv⟩ := rv
    exact hg b Z F1 H1 σ v Ω c1 rv _ fun σ' c2 _ => k b F1 H1 σ' hb c2 s1.fe
theorem ev_eqB {a b : Bool} (ha : Ev Γ Ω ta (B a)) (hb : Ev Γ Ω tb (B b)) : Ev Γ Ω (tOp rEq ta tb) (B (decide (a = b))) := ev_op ha hb fun F H x y s e e' Q q => by
  cases e; cases e'
  refine ⟨rfl, ?_⟩
  have z : decide (V.bl a = V.bl b) = decide (a = b) := by simp
  rw [z]
  exact q _ F H (Ext.refl _ _ _) s rfl
theorem ev_eqS {a b : Str} (ha : Ev Γ Ω ta (S a)) (hb : Ev Γ Ω tb (S b)) : Ev Γ Ω (tOp rEq ta tb) (B (decide (a = b))) := ev_op ha hb fun F H x y s e e' Q q => by
  cases e; cases e'
  refine ⟨rfl, ?_⟩
  have z : decide (V.str a = V.str b) = decide (a = b) := by simp
  rw [z]
  exact q _ F H (Ext.refl _ _ _) s rfl
theorem ev_neS {a b : Str} (ha : Ev Γ Ω ta (S a)) (hb : Ev Γ Ω tb (S b)) : Ev Γ Ω (tOp rNe ta tb) (B (!decide (a = b))) := ev_op ha hb fun F H x y s e e' Q q => by
  cases e; cases e'
  refine ⟨rfl, ?_⟩
  have z : decide (V.str a = V.str b) = decide (a = b) := by simp
  rw [z]
  exact q _ F H (Ext.refl _ _ _) s rfl
theorem st_forT {ι α : Type} {tl : TE} {g : TG} {tb : TS} {xs : List α} {f : α → As} (G : ι → Gm) (G' : α → ι → Gm) (O : ι → Om) (P : Nat → ι → Prop) {ws : List Nat} (i0 : ι) (c : Ctx Z F H σ (G i0) (O i0)) (e : Ev (G i0) (O i0) tl (Tp K (xs.map f))) (p0 : P 0 i0)
    (hg : ∀ x i, Gt (G i) (f x) g (G' x i) ws)
    (body : ∀ k x i G1 F H σ (N : St → Hp → Prop), xs[k]? = some x → P k i → Ctx (Z.pin G1) F H σ (G' x i) (O i) → (∀ j F' H' σ', P (k + 1) j → Ctx (Z.pin G1) F' H' σ' (G j) (O j) → N σ' H') → tb ⟨N, r, n, N⟩ σ H)
    (hd : ∀ i F H σ, P xs.length i → Ctx Z F H σ (G i) (O i) → n σ H) : tFor (iTup K tl) g tb ⟨n, r, bk, ct⟩ σ H := by
  refine e Z F H σ c _ fun v F1 H1 c1 s1 rv => ?_
  obtain ⟨a, ys, ea, hs, hl⟩ := rv
  have hlen : ys.length = xs.length := by rw [hl.length, List.length_map]
  refine ⟨a, ea, ⟨ys, same_seqT c1.sub hs⟩, for_tup (K := K) (a := a) (xs := ys) (fun k σ H => ∃ i F, P k i ∧ Ctx (Z.pin F1) F H σ (G i) (O i)) ⟨i0, F1, p0, c1.topin (Same.refl _)⟩ (fun k σ H _ ⟨i, F, _, cc⟩ => same_seqT cc.sub (same_seqT cc.pin hs)) ?_ ?_⟩
  · rintro k y σ H hy ⟨i, F, p, cc⟩
    have hk : k < xs.length := by rw [← hlen]; exact (List.getElem?_eq_some_iff.mp hy).1
    have hx : xs[k]? = some xs[k] := List.getElem?_eq_getElem hk
    have hz : (xs.map f)[k]? = some (f xs[k]) := by rw [List.getElem?_map, hx]; rfl
    obtain ⟨y', ey, ry⟩ := hl.get hz
    rw [hy] at ey
    cases ey
    refine hg xs[k] i (Z.pin F1) F H σ y (O i) cc ((f xs[k]).mono cc.pin ry) _ fun σ' c' _ => ?_
    exact body k xs[k] i F1 F H σ' _ hx p c' fun j F' H' σ'' pj cj => ⟨j, F', pj, cj⟩
  · rintro σ H ⟨i, F, p, cc⟩
    rw [hlen] at p
    exact hd i F H σ p (cc.unpin c1.pin)
theorem ev_ls2 {Rs' : List As} (h : Ev Γ Ω te (Ls K Rs)) (e : Rs = Rs') : Ev Γ Ω te (Ls K Rs') := e ▸ h
/-- x = [] of a list that will grow -/
theorem st_nil {i : Nat} (c : Ctx Z F H σ Γ Ω) (k : ∀ p F' H' σ', Ctx Z F' H' σ' (Γ.set i (some (Rf p))) ((p, oL []) :: Ω) → Same F F' → n σ' H') : tAsg (tLst tNil) (gName i) ⟨n, r, bk, ct⟩ σ H :=
  ⟨Nat.zero_le _, fun p hp => k p F _ _ ((c.grow (A := oL []) hp ⟨[], rfl, trivial⟩).set i rfl) (Same.refl _)⟩
/-- x.append(e), x owned -/
theorem st_app {p : Addr} {j : Nat} (c : Ctx Z F H σ Γ Ω) (h : Ev Γ Ω ta (Rf p)) (hm : Ω[j]? = some (p, oL Rs)) (e : Ev Γ Ω te R) (hl : Rs.length ≤ 100000) (k : ∀ F' H', Ctx Z F' H' σ Γ (Ω.set j (p, oL (Rs ++ [R]))) → Same F F' → n σ H') (hro : Z.ro = [] := by rfl) :
    tDrop (tBM K "list" rAppend ta (tCons te tNil)) ⟨n, r, bk, ct⟩ σ H :=
  h Z F H σ c _ fun v F1 H1 c1 s1 rv => by
    cases rv
    obtain ⟨_, o, h2, xs, eo, hx⟩ := c1.own _ (List.mem_of_getElem? hm)
    refine ⟨.inl ⟨rfl, _, SqL.of (by rw [h2, eo])⟩, ?_⟩
    refine e Z F1 H1 σ c1 _ fun y F2 H2 c2 s2 ry => ?_
    obtain ⟨_, o, h2, xs, eo, hx⟩ := c2.own _ (List.mem_of_getElem? hm)
    refine ⟨p, xs, y, rfl, rfl, by rw [h2, eo], ?_, ?_⟩
    · rw [hx.length]
      exact Nat.lt_of_le_of_lt hl (by decide)
    · exact k F2 _ (c2.chg hm ⟨_, rfl, hx.app ⟨ry, trivial⟩⟩ (c2.wr hm hro)) (s1.trans s2).fe
theorem st_appX {β : Type} {P : β → Prop} {Rb : β → As} {p : Addr} {j : Nat} (c : Ctx Z F H σ Γ Ω) (h : Ev Γ Ω ta (Rf p)) (hm : Ω[j]? = some (p, oL Rs)) (e : Ev Γ Ω te (Xs P Rb)) (hl : Rs.length ≤ 100000) (k : ∀ b F' H', P b → Ctx Z F' H' σ Γ (Ω.set j (p, oL (Rs ++ [Rb b]))) → Same F F' → n σ H') (hro : Z.ro = [] := by rfl) :
    tDrop (tBM K "list" rAppend ta (tCons te tNil)) ⟨n, r, bk, ct⟩ σ H :=
  h Z F H σ c _ fun v F1 H1 c1 s1 rv => by
    cases rv
    obtain ⟨_, o, h2, xs, eo, hx⟩ := c1.own _ (List.mem_of_getElem? hm)
    refine ⟨.inl ⟨rfl, _, SqL.of (by rw [h2, eo])⟩, ?_⟩
    refine e Z F1 H1 σ c1 _ fun y F2 H2 c2 s2 ry => ?_
    obtain ⟨b, hb, ry⟩ := ry
    obtain ⟨_, o, h2, xs, eo, hx⟩ := c2.own _ (List.mem_of_getElem? hm)
    refine ⟨p, xs, y, rfl, rfl, by rw [h2, eo], ?_, ?_⟩
    · rw [hx.length]
      exact Nat.lt_of_le_of_lt hl (by decide)
    · exact k b F2 _ hb (c2.chg hm ⟨_, rfl, hx.app ⟨ry, trivial⟩⟩ (c2.wr hm hro)) (s1.trans s2).fe
/-- return x, x owned -/
theorem st_retL {p : Addr} {A : OA} {j : Nat} (c : Ctx Z F H σ Γ Ω) (h : Ev Γ Ω te (Rf p)) (hm : Ω[j]? = some (p, A)) (hA : RdL A Rs) (hz : Z.ft = []) (k : ∀ v F' H', Ctx Z F' H' σ Γ (Ω.eraseIdx j) → Same F F' → (Ls K Rs).p F' v → r v H') (hro : Z.ro = [] := by rfl) : tRet te ⟨n, r, bk, ct⟩ σ H :=
  h Z F H σ c _ fun v F1 H1 c1 s1 rv => by
    cases rv
    obtain ⟨F2, s2, c2, q⟩ := c1.frz (K := K) hm hA hz hro
    exact k _ F2 H1 c2 (s1.fe.trans s2) q
end
/-! ## == of data -/
structure IsD (K : PySem.W.Frag) (R : As) (d : PyData) : Prop where
  dp : ∀ F H v, Same F H → R.p F v → Dp K H v d
def AllD (K : PySem.W.Frag) : List As → List PyData → Prop
  | [], [] => True
  | R :: Rs, d :: ds => IsD K R d ∧ AllD K Rs ds
  | _, _ => False
/-- it can be compared: its depth is at most k -/
def Gd (k : Nat) (d : PyData) : Prop := d.canLay0 = true ∧ d.depth ≤ k
theorem gd_all : ∀ {ds : List PyData} {k : Nat}, (∀ d ∈ ds, Gd k d) → PyData.canLayAll0 ds = true ∧ PyData.depthAll ds ≤ k
  | [], k, _ => ⟨rfl, Nat.zero_le _⟩
  | d :: ds, k, h => by
    obtain ⟨h1, h2⟩ := h d List.mem_cons_self
    obtain ⟨h3, h4⟩ := gd_all (k := k) fun d' hd => h d' (List.mem_cons_of_mem _ hd)
    refine ⟨?_, ?_⟩
    · show (d.canLay0 && PyData.canLayAll0 ds) = true
      rw [h1, h3]; rfl
    · show max d.depth (PyData.depthAll ds) ≤ k
      omega
theorem gd_list {ds : List PyData} {k : Nat} (h : ∀ d ∈ ds, Gd k d) : Gd (k + 1) (.list ds) := ⟨(gd_all h).1, Nat.succ_le_succ (gd_all h).2⟩
theorem gd_tup {ds : List PyData} {k : Nat} (h : ∀ d ∈ ds, Gd k d) : Gd (k + 1) (.tuple ds) := ⟨(gd_all h).1, Nat.succ_le_succ (gd_all h).2⟩
theorem gd_int {n : Int} : Gd 0 (.int n) := ⟨rfl, Nat.le_refl _⟩
theorem Gd.shaped {d : PyData} {k : Nat} (h : Gd k d) (l : k ≤ 64 := by decide) : SeqAt.shaped d = true := by
  unfold SeqAt.shaped
  rw [h.1, Bool.true_and]
  exact decide_eq_true (Nat.le_trans h.2 l)
section
variable {K : PySem.W.Frag} {F H : Hp}
theorem isd_int {n : Int} : IsD K (I n) (.int n) := ⟨fun F H v s e => by cases e; exact .int n⟩
theorem isd_bool {b : Bool} : IsD K (B b) (.bool b) := ⟨fun F H v s e => by cases e; exact .bl b⟩
theorem isd_str {x : Str} : IsD K (S x) (.str x) := ⟨fun F H v s e => by cases e; exact .str x⟩
theorem isd_non : IsD K Nn .none := ⟨fun F H v s e => by cases e; exact .non⟩
theorem dpall : ∀ {Rs : List As} {ds : List PyData} {xs : List V}, AllD K Rs ds → Same F H → All F Rs xs → DpAll K H xs ds
  | [], [], [], _, _, _ => .nil
  | R :: Rs, d :: ds, x :: xs, h, s, a => .cons (h.1.dp F H x s a.1) (dpall h.2 s a.2)
  | [], _ :: _, _, h, _, _ => h.elim
  | _ :: _, [], _, h, _, _ => h.elim
  | [], [], _ :: _, _, _, a => a.elim
  | _ :: _, _ :: _, [], _, _, a => a.elim
theorem isd_tup {Rs : List As} {ds : List PyData} (h : AllD K Rs ds) : IsD K (Tp K Rs) (.tuple ds) := ⟨fun F H v s e => by
  obtain ⟨a, xs, e, hs, hl⟩ := e
  subst e
  exact .tup (same_seqT s hs) (dpall h s hl)⟩
theorem isd_lst {Rs : List As} {ds : List PyData} (h : AllD K Rs ds) : IsD K (Ls K Rs) (.list ds) := ⟨fun F H v s e => by
  obtain ⟨a, xs, e, hs, hl⟩ := e
  subst e
  exact .lst (s.seq hs) (dpall h s hl)⟩
theorem alld_map {α : Type} {f : α → As} {d : α → PyData} (h : ∀ x, IsD K (f x) (d x)) : ∀ xs : List α, AllD K (xs.map f) (xs.map d)
  | [] => trivial
  | x :: xs => ⟨h x, alld_map h xs⟩
/-- how data of a kind are told, and that == tells them apart -/
structure Kd (K : PySem.W.Frag) {α : Type} (f : α → As) (d : α → PyData) (k : Nat) : Prop where
  is : ∀ x, IsD K (f x) (d x)
  gd : ∀ x, Gd k (d x)
  eq : ∀ x y, PyData.eqv (d x) (d y) = true ↔ x = y
theorem kd_int : Kd K (fun n => I n) PyData.int 0 := ⟨fun _ => isd_int, fun _ => gd_int, fun x y => by simp [PyData.eqv]⟩
theorem kd_pair : Kd K (Fr K) (fun q => .tuple [.int q.1, .int q.2]) 1 := ⟨fun q => isd_tup ⟨isd_int, isd_int, trivial⟩, fun q => gd_tup fun d hd => by
    rcases List.mem_cons.mp hd with z | hd
    · subst z; exact gd_int
    · rcases List.mem_cons.mp hd with z | hd
      · subst z; exact gd_int
      · exact absurd hd List.not_mem_nil, fun x y => by
    obtain ⟨a, b⟩ := x
    obtain ⟨c, d⟩ := y
    simp [PyData.eqv, PyData.eqvAll]⟩
theorem fq_inj {x y : Rat} (h1 : x.num = y.num) (h2 : (x.den : Int) = y.den) : x = y := by
  rw [← Rat.num_divInt_den x, ← Rat.num_divInt_den y, h1, h2]
theorem kd_fq : Kd K (Fq K) (fun q => .tuple [.int q.num, .int q.den]) 1 := ⟨fun q => kd_pair.is _, fun q => (kd_pair (K := K)).gd (q.num, (q.den : Int)), fun x y => by
    have e := kd_pair (K := K) |>.eq (x.num, (x.den : Int)) (y.num, (y.den : Int))
    refine e.trans ⟨fun h => ?_, fun h => by rw [h]⟩
    exact fq_inj (congrArg Prod.fst h) (congrArg Prod.snd h)⟩
theorem eqv_map {α : Type} {d : α → PyData} (h : ∀ x y, PyData.eqv (d x) (d y) = true ↔ x = y) : ∀ xs ys : List α, PyData.eqvAll (xs.map d) (ys.map d) = true ↔ xs = ys
  | [], [] => ⟨fun _ => rfl, fun _ => rfl⟩
  | [], _ :: _ => ⟨(fun h => by cases h), (fun h => by cases h)⟩
  | _ :: _, [] => ⟨(fun h => by cases h), (fun h => by cases h)⟩
  | x :: xs, y :: ys => by
    show (PyData.eqv (d x) (d y) && PyData.eqvAll (xs.map d) (ys.map d)) = true ↔ _
    rw [Bool.and_eq_true, h, eqv_map h xs ys, List.cons.injEq]
theorem kd_list {α : Type} {f : α → As} {d : α → PyData} {k : Nat} (h : Kd K f d k) : Kd K (fun xs : List α => Ls K (xs.map f)) (fun xs => .list (xs.map d)) (k + 1) :=
  ⟨fun xs => isd_lst (alld_map h.is xs), fun xs => gd_list fun d' hd => by
    obtain ⟨x, _, e⟩ := List.mem_map.mp hd
    subst e; exact h.gd x, fun xs ys => eqv_map h.eq xs ys⟩
variable {Γ : Gm} {Ω : Om} {ta tb : TE} {R Rx Ry : As}
theorem ev_eqD {d e : PyData} {k m : Nat} (ha : Ev Γ Ω ta Rx) (hb : Ev Γ Ω tb Ry) (h1 : IsD K Rx d) (h2 : IsD K Ry e) (g1 : Gd k d) (g2 : Gd m e) (l1 : k ≤ 64 := by decide) (l2 : m ≤ 64 := by decide) : Ev Γ Ω (tOp (rEqD K) ta tb) (B (PyData.eqv d e)) :=
  ev_op ha hb fun F H x y s rx ry Q q => ⟨d, e, h1.dp F H x s rx, h2.dp F H y s ry, g1.shaped l1, g2.shaped l2, q _ F H (Ext.refl _ _ _) s rfl⟩
theorem ev_neD {d e : PyData} {k m : Nat} (ha : Ev Γ Ω ta Rx) (hb : Ev Γ Ω tb Ry) (h1 : IsD K Rx d) (h2 : IsD K Ry e) (g1 : Gd k d) (g2 : Gd m e) (l1 : k ≤ 64 := by decide) (l2 : m ≤ 64 := by decide) : Ev Γ Ω (tOp (rNeD K) ta tb) (B (!PyData.eqv d e)) :=
  ev_op ha hb fun F H x y s rx ry Q q => ⟨d, e, h1.dp F H x s rx, h2.dp F H y s ry, g1.shaped l1, g2.shaped l2, q _ F H (Ext.refl _ _ _) s rfl⟩
theorem ev_eqK {α : Type} [DecidableEq α] {f : α → As} {d : α → PyData} {k : Nat} {x y : α} (h : Kd K f d k) (ha : Ev Γ Ω ta (f x)) (hb : Ev Γ Ω tb (f y)) (l : k ≤ 64 := by decide) : Ev Γ Ω (tOp (rEqD K) ta tb) (B (decide (x = y))) :=
  ev_is (ev_eqD ha hb (h.is x) (h.is y) (h.gd x) (h.gd y) l l) (congrArg (fun b => B b) (by rw [Bool.eq_iff_iff, h.eq, decide_eq_true_iff]))
theorem ev_neK {α : Type} [DecidableEq α] {f : α → As} {d : α → PyData} {k : Nat} {x y : α} (h : Kd K f d k) (ha : Ev Γ Ω ta (f x)) (hb : Ev Γ Ω tb (f y)) (l : k ≤ 64 := by decide) : Ev Γ Ω (tOp (rNeD K) ta tb) (B (!decide (x = y))) :=
  ev_is (ev_neD ha hb (h.is x) (h.is y) (h.gd x) (h.gd y) l l) (congrArg (fun b => B (!b)) (by rw [Bool.eq_iff_iff, h.eq, decide_eq_true_iff]))
end
/-- a list, owned or not, against the list without items -/
theorem eqv_nil {ds : List PyData} : PyData.eqv (.list ds) (.list []) = decide (ds = []) := by
  cases ds with
  | nil => rfl
  | cons => rfl
section
variable {K : PySem.W.Frag} {Γ : Gm} {Ω : Om} {ta tb : TE} {α : Type} {f : α → As} {d : α → PyData} {k : Nat} {xs : List α}
theorem ev_cmpNil (neg : Bool) (h : Kd K f d k) (ha : Lk K Γ Ω ta (xs.map f)) (l : k ≤ 63 := by decide) : Ev Γ Ω (tOp (if neg then rNeD K else rEqD K) ta (tLst tNil)) (B (if neg then !xs.isEmpty else xs.isEmpty)) := fun Z F H σ c Q q =>
  ha Z F H σ c _ fun a F1 H1 c1 s1 hs => ⟨Nat.zero_le _, fun p hp => by
    obtain ⟨F2, H2, e, c2, s2, r⟩ := new_ls (K := K) (Rs := []) (xs := []) c1 trivial hp
    rw [← e]
    obtain ⟨ys, hs2, hl⟩ := hs F2 H2 c2 s2.fe
    have d1 : Dp K H2 (.ref a) (.list (xs.map d)) := .lst hs2 (dpall (alld_map h.is xs) c2.sub hl)
    have d2 : Dp K H2 (.ref p) (.list []) := by
      obtain ⟨p', zs, ep, hz, hzl⟩ := r
      cases ep
      exact .lst (c2.sub.seq hz) (dpall (Rs := []) (ds := []) trivial c2.sub hzl)
    have g1 : Gd (k + 1) (.list (xs.map d)) := (kd_list h).gd xs
    have sh1 := g1.shaped (Nat.succ_le_succ l)
    have sh2 : SeqAt.shaped (.list []) = true := by decide
    have ee : PyData.eqv (.list (xs.map d)) (.list []) = xs.isEmpty := by
      cases xs <;> rfl
    cases neg with
    | true => exact ⟨_, _, d1, d2, sh1, sh2, by rw [ee]; exact q _ F2 H2 c2 (s1.trans s2) rfl⟩
    | false => exact ⟨_, _, d1, d2, sh1, sh2, by rw [ee]; exact q _ F2 H2 c2 (s1.trans s2) rfl⟩⟩
end
end Y

namespace Y
open PySem L2
/-! ## comprehensions -/
def wipeG (Γ : Gm) : List Nat → Gm
  | [] => Γ
  | v :: vs => (wipeG Γ vs).set v none
theorem wipe_sub {σ : L2.St} {vs : List Nat} : ∀ us : List Nat, (∀ i, i ∈ us → i ∈ vs) → L2.wipe (L2.wipe σ us) vs = L2.wipe σ vs
  | [], _ => rfl
  | u :: us, h => (wipe_set (σ := L2.wipe σ us) (h u List.mem_cons_self)).trans (wipe_sub us fun i hi => h i (List.mem_cons_of_mem _ hi))
theorem wipe_wipe (σ : L2.St) (vs : List Nat) : L2.wipe (L2.wipe σ vs) vs = L2.wipe σ vs := wipe_sub vs fun _ h => h
theorem Sat.wipe {F : Hp} {Γ : Gm} {σ : L2.St} (h : Sat F Γ σ) : ∀ vs : List Nat, Sat F (wipeG Γ vs) (L2.wipe σ vs)
  | [] => h
  | v :: vs => Sat.unset v (Sat.wipe h vs)
section
variable {Z : Bs} {F H F' H' : Hp} {σ σ' : L2.St} {Γ Γ' : Gm} {Ω Ω' : Om} {K : PySem.W.Frag} {te ta tb tl : TE} {tt : TT} {R Rx Ry : As} {Rs Ss : List As} {n : L2.St → Hp → Prop} {r : VK} {bk ct : L2.St → Hp → Prop}
theorem Ctx.slots {Γ' : Gm} {σ' : L2.St} (c : Ctx Z F H σ Γ Ω) (h : Sat F Γ' σ') : Ctx Z F H σ' Γ' Ω := ⟨h, c.sub, c.own, c.nd, c.loc, c.ext, c.pin⟩
/-- what is owned is, for a while, what it is just now -/
theorem Ctx.tail {x : Addr × OA} (c : Ctx Z F H σ Γ (x :: Ω)) : Ctx Z F H σ Γ Ω :=
  ⟨c.sat, c.sub, fun y hy => c.own y (List.mem_cons_of_mem _ hy), (List.nodup_cons.mp c.nd).2, fun y hy => c.loc y (List.mem_cons_of_mem _ hy), c.ext, c.pin⟩
theorem filter_take {α : Type} {xs : List α} {c : α → Bool} {k : Nat} {x : α} (h : xs[k]? = some x) : (xs.take (k + 1)).filter c = (xs.take k).filter c ++ (if c x = true then [x] else []) := by
  rw [List.take_succ, h, Option.toList_some, List.filter_append]
  congr 1
  rw [List.filter_cons, List.filter_nil]
theorem ev_lc {α : Type} {xs : List α} {f : α → As} {g : TG} {vs : List Nat} (G' : α → Gm) (cd : α → Bool) (res : α → As) {ws : List Nat} (e : Ev Γ Ω tl (Ls K (xs.map f))) (hg : ∀ x, Gt (wipeG Γ vs) (f x) g (G' x) ws) (hw : ∀ i ∈ ws, i ∈ vs)
    (ht : ∀ x ∈ xs, EvT (G' x) Ω tt (cd x)) (he : ∀ x ∈ xs, cd x = true → Ev (G' x) Ω te (res x)) (hlen : xs.length ≤ 100000) : Ev Γ Ω (tLc (iList K tl) g tt te vs) (Ls K ((xs.filter cd).map res)) := fun Z F H σ c Q q =>
  e Z F H σ c _ fun v F1 H1 c1 s1 rv => by
    obtain ⟨a, ys, ea, hs, hl⟩ := rv
    have hly : ys.length = xs.length := by rw [hl.length, List.length_map]
    refine ⟨a, ea, ⟨ys, c1.sub.seq hs⟩, fun D hD => ?_⟩
    have cw : Ctx Z F1 H1 (L2.wipe σ vs) (wipeG Γ vs) Ω := c1.slots (c1.sat.wipe vs)
    refine lc_list (K := K) (a := a) (xs := ys) (fun k H' => ∃ F' acc, H' D = some (.lst acc) ∧ acc.length ≤ k ∧ All F' (((xs.take k).filter cd).map res) acc ∧ F' D = none ∧ ∃ G, Ctx Z F' G (L2.wipe σ vs) (wipeG Γ vs) Ω ∧ Ext [] F1 H1 F' G ∧ G D = none ∧ H' = upd G D (.lst acc))
      ⟨F1, [], upd_same, Nat.zero_le _, trivial, c1.sub.free hD, H1, cw, Ext.refl _ _ _, hD, rfl⟩ ?_ ?_ ?_
    · rintro k H' _ ⟨F', acc, _, _, _, _, G, cG, eG, hGD, rfl⟩
      have z := cG.sub.seq (eG.fe.seq hs)
      exact Same.seq (fun b o h => by rw [upd_ne (ne_of_none h hGD)]; exact h) z
    · rintro k y H' hy ⟨F', acc, hA, hlA, hall, hFD, G, cG, eG, hGD, rfl⟩
      have hk : k < xs.length := by rw [← hly]; exact (List.getElem?_eq_some_iff.mp hy).1
      have hx : xs[k]? = some xs[k] := List.getElem?_eq_getElem hk
      have hmem : xs[k] ∈ xs := List.getElem_mem hk
      have hz : (xs.map f)[k]? = some (f xs[k]) := by rw [List.getElem?_map, hx]; rfl
      obtain ⟨y', ey, ry⟩ := hl.get hz
      rw [hy] at ey
      cases ey
      -- the list that is being made, as something owned
      have cD : Ctx Z F' (upd G D (.lst acc)) (L2.wipe σ vs) (wipeG Γ vs) ((D, oX acc []) :: Ω) ∨ True := .inr trivial
      have cA : Ctx Z F' (upd G D (.lst acc)) (L2.wipe σ vs) (wipeG Γ vs) Ω := (cG.grow (A := ⟨fun _ _ => True, fun _ h => h⟩) (p := D) (o := .lst acc) hGD trivial).tail
      have pres : ∀ {F2 H2 : Hp}, Ext [] F' (upd G D (.lst acc)) F2 H2 → H2 D = some (.lst acc) := fun e2 => e2.fr D _ upd_same List.not_mem_nil
      have back : ∀ {F2 H2 : Hp} {σ2 : L2.St} {Γ2 : Gm}, Ctx Z F2 H2 σ2 Γ2 Ω → Ext [] F' (upd G D (.lst acc)) F2 H2 → F2 D = none ∧ ∃ G2, Ctx Z F2 G2 (L2.wipe σ vs) (wipeG Γ vs) Ω ∧ Ext [] F1 H1 F2 G2 ∧ G2 D = none ∧ ∀ o, upd H2 D o = upd G2 D o := fun {F2 H2 σ2 Γ2} c2 e2 => by
        have f2 : F2 D = none := e2.nw D (by rw [upd_same]; exact fun z => by cases z) hFD
        let G2 : Hp := fun b => if b = D then none else H2 b
        have g2 : ∀ b, b ≠ D → G2 b = H2 b := fun b hb => if_neg hb
        have gD : G2 D = none := if_pos rfl
        have hext : Ext [] F' G F2 G2 := by
          refine ⟨e2.fe, fun b o h hn => ?_, fun b h => ?_, fun b h1 h2 => ?_⟩
          · have hb : b ≠ D := ne_of_none h hGD
            rw [g2 b hb]
            exact e2.fr b o (by rw [upd_ne hb]; exact h) hn
          · by_cases hb : b = D
            · rw [hb]; exact hGD
            · rw [g2 b hb] at h
              have := e2.dm b h
              rw [upd_ne hb] at this
              exact this
          · have hb : b ≠ D := fun z => h1 (by rw [z]; exact hGD)
            exact e2.nw b (by rw [upd_ne hb]; exact h1) h2
        have hsub : Same F2 G2 := fun b o h => by
          have hb : b ≠ D := ne_of_none h f2
          rw [g2 b hb]
          exact c2.sub b o h
        refine ⟨f2, G2, cG.step hext hsub, eG.trans hext, gD, fun o => ?_⟩
        funext b
        unfold upd
        by_cases hb : b = D
        · rw [if_pos hb, if_pos hb]
        · rw [if_neg hb, if_neg hb, g2 b hb]
      refine hg xs[k] Z F' _ (L2.wipe σ vs) y Ω cA ((f xs[k]).mono eG.fe ry) _ fun σ2 c2 hσ => ⟨(hσ vs hw).trans ?_, ?_⟩
      · exact wipe_wipe σ vs
      refine ht xs[k] hmem Z F' _ σ2 c2 _ fun F3 H3 c3 e3 => ?_
      cases hc : cd xs[k] with
      | false =>
        refine iteF ?_
        obtain ⟨f3, G3, cG3, eG3, gD3, up3⟩ := back c3 e3
        refine ⟨F3, acc, pres e3, by omega, ?_, f3, G3, cG3, eG3, gD3, ?_⟩
        · rw [filter_take hx, hc, if_neg Bool.false_ne_true, List.append_nil]
          exact hall.mono e3.fe
        · have := up3 (.lst acc)
          rw [← this]
          funext b
          unfold upd
          by_cases hb : b = D
          · rw [if_pos hb, hb]; exact pres e3
          · rw [if_neg hb]
      | true =>
        refine iteT ?_
        refine he xs[k] hmem hc Z F3 H3 σ2 c3 _ fun w F4 H4 c4 e4 rw' => ?_
        have e34 := e3.trans e4
        obtain ⟨f4, G4, cG4, eG4, gD4, up4⟩ := back c4 e34
        refine ⟨acc, pres e34, Nat.lt_of_le_of_lt (Nat.le_trans hlA (Nat.le_of_lt (Nat.lt_of_lt_of_le hk hlen))) (by decide), F4, acc ++ [w], upd_same, by rw [List.length_append]; exact Nat.succ_le_succ hlA, ?_, f4, G4, cG4, eG4, gD4, up4 _⟩
        rw [filter_take hx, hc, if_pos rfl, List.map_append]
        exact (hall.mono e34.fe).app ⟨rw', trivial⟩
    · rintro H' ⟨F', acc, hA, _, hall, hFD, G, cG, eG, hGD, rfl⟩
      rw [hly, List.take_length] at hall
      obtain ⟨e', s'⟩ := Ext.new (o := .lst acc) cG.sub hGD
      exact q _ _ _ (c1.step (eG.trans e') s') (s1.trans (eG.trans e')) ⟨D, acc, rfl, SqL.of upd_same, hall.mono e'.fe⟩
end
section
variable {Γ : Gm} {Ω : Om} {K : PySem.W.Frag} {te tl : TE}
theorem et_yes : EvT Γ Ω tYes true := fun Z F H σ c Q q => q F H c (Ext.refl _ _ _)
theorem ev_lcA {α : Type} {xs : List α} {f : α → As} {g : TG} {vs : List Nat} (G' : α → Gm) (res : α → As) {ws : List Nat} (e : Ev Γ Ω tl (Ls K (xs.map f))) (hg : ∀ x, Gt (wipeG Γ vs) (f x) g (G' x) ws) (hw : ∀ i ∈ ws, i ∈ vs)
    (he : ∀ x ∈ xs, Ev (G' x) Ω te (res x)) (hlen : xs.length ≤ 100000) : Ev Γ Ω (tLc (iList K tl) g tYes te vs) (Ls K (xs.map res)) := by
  have z := ev_lc (K := K) (te := te) (tt := tYes) G' (fun _ => true) res e hg hw (fun _ _ => et_yes) (fun x hx _ => he x hx) hlen
  rw [List.filter_eq_self.mpr (fun _ _ => rfl)] at z
  exact z
end
/-! ## built-ins over lists of ints -/
section
variable {K : PySem.W.Frag} {Γ : Gm} {Ω : Om} {ta tb te : TE}
theorem all_map {F : Hp} {α : Type} {g : α → Int} : ∀ {xs : List α} {ys : List V}, All F (xs.map fun x => I (g x)) ys → ys = (xs.map g).map V.int
  | [], [], _ => rfl
  | x :: xs, y :: ys, h => by
    have e : y = V.int (g x) := h.1
    rw [e, all_map h.2]
    rfl
  | [], _ :: _, h => h.elim
  | _ :: _, [], h => h.elim
theorem rc_sum {α : Type} {xs : List α} {g : α → Int} : RC (rSum K) [Ls K (xs.map fun x => I (g x))] (I (xs.map g).sum) := fun F H vs s h Q q => by
  obtain ⟨v, rfl, a, ys, e, hs, hl⟩ := h.one
  cases e
  have z := all_map hl
  subst z
  exact ⟨a, xs.map g, rfl, s.seq hs, q _ F H (Ext.refl _ _ _) s rfl⟩
theorem rc_max2 {m n : Int} : RC (fun xs H Q => ∃ m n, xs = [.int m, .int n] ∧ Q (.int (if n > m then n else m)) H) [I m, I n] (I (max m n)) := fun F H vs s h Q q => by
  obtain ⟨v, w, rfl, e, e'⟩ := h.two
  cases e; cases e'
  refine ⟨m, n, rfl, ?_⟩
  have z : (if n > m then n else m) = max m n := by split <;> omega
  rw [z]
  exact q _ F H (Ext.refl _ _ _) s rfl
theorem rc_min2 {m n : Int} : RC (fun xs H Q => ∃ m n, xs = [.int m, .int n] ∧ Q (.int (if n < m then n else m)) H) [I m, I n] (I (min m n)) := fun F H vs s h Q q => by
  obtain ⟨v, w, rfl, e, e'⟩ := h.two
  cases e; cases e'
  refine ⟨m, n, rfl, ?_⟩
  have z : (if n < m then n else m) = min m n := by split <;> omega
  rw [z]
  exact q _ F H (Ext.refl _ _ _) s rfl
/-! pieces -/
abbrev Pie := Int × Int × Int × Int
def Pc (K : PySem.W.Frag) (p : Pie) : As := Tp K [I p.1, I p.2.1, I p.2.2.1, I p.2.2.2]
theorem ev_pc {ta : TA} {a b c d : Int} (h : EvA Γ Ω ta [I a, I b, I c, I d]) : Ev Γ Ω (tTup ta) (Pc K (a, b, c, d)) := ev_tup h (show 4 ≤ 1000 by decide)
theorem kd_pc : Kd K (Pc K) (fun p => .tuple [.int p.1, .int p.2.1, .int p.2.2.1, .int p.2.2.2]) 1 := ⟨fun q => isd_tup ⟨isd_int, isd_int, isd_int, isd_int, trivial⟩, fun q => gd_tup fun d hd => by
    simp only [List.mem_cons, List.not_mem_nil, or_false] at hd
    rcases hd with z | z | z | z <;> (subst z; exact gd_int), fun x y => by
    obtain ⟨a, b, c, d⟩ := x
    obtain ⟨a', b', c', d'⟩ := y
    simp [PyData.eqv, PyData.eqvAll]⟩
theorem atI_two (a b z : Int) : atI [I a, I b] (z % 2) = some (I (if z % 2 = 0 then a else b)) := by
  rcases Int.emod_two_eq z with h | h
  · rw [h]; rfl
  · rw [h]; rfl
theorem atI_map {α : Type} {f : α → As} {xs : List α} {i : Int} (h0 : 0 ≤ i) (h : i < (xs.length : Int)) : ∃ x, xs[i.toNat]? = some x ∧ atI (xs.map f) i = some (f x) := by
  have hk : i.toNat < xs.length := by omega
  have ek : i = ((i.toNat : Nat) : Int) := by omega
  refine ⟨xs[i.toNat], List.getElem?_eq_getElem hk, ?_⟩
  have z := atI_nat (xs := xs.map f) (j := i.toNat) (v := f xs[i.toNat]) (by rw [List.getElem?_map, List.getElem?_eq_getElem hk]; rfl)
  rw [← ek] at z
  exact z
theorem cutA_from {α : Type} {f : α → As} {xs : List α} {j k : Nat} : cutA (xs.map f) (some (j : Int)) (some (k : Int)) = ((xs.drop j).take (k - j)).map f := by
  unfold cutA
  rw [HT.sIx_nat, HT.sIx_nat, List.length_map, ← List.map_drop, ← List.map_take]
  congr 1
  by_cases hj : j ≤ xs.length
  · by_cases hk : k ≤ xs.length
    · rw [Nat.min_eq_left hj, Nat.min_eq_left hk]
    · rw [Nat.min_eq_left hj, Nat.min_eq_right (by omega), List.take_of_length_le (by rw [List.length_drop]; omega), List.take_of_length_le (by rw [List.length_drop]; omega)]
  · rw [List.drop_eq_nil_of_le (as := xs) (i := j) (by omega), List.drop_eq_nil_of_le (by rw [Nat.min_eq_right (by omega)]; omega), List.take_nil, List.take_nil]
theorem cutA_rest {α : Type} {f : α → As} {xs : List α} {j : Nat} : cutA (xs.map f) (some (j : Int)) none = (xs.drop j).map f := by
  unfold cutA
  rw [HT.sIx_nat, HT.sIx_none, List.length_map, ← List.map_drop, ← List.map_take]
  congr 1
  by_cases hj : j ≤ xs.length
  · rw [Nat.min_eq_left hj, List.take_of_length_le (by rw [List.length_drop]; omega)]
  · rw [List.drop_eq_nil_of_le (as := xs) (i := j) (by omega), List.drop_eq_nil_of_le (by rw [Nat.min_eq_right (by omega)]; omega), List.take_nil]
end
/-! ## what laws draw by -/
def mix (c k : Int) : Int :=
  let n := c % 2147483647 + 7919 * k + 1
  let m := (n * n + 48271 * n + 11) % 2147483647
  (m * m + 69621 * m + k) % 2147483647
theorem mix_lo (c k : Int) : 0 ≤ mix c k := Int.emod_nonneg _ (by decide)
theorem mix_hi (c k : Int) : mix c k < 2147483647 := Int.emod_lt_of_pos _ (by decide)
/-- a row that is one -/
structure GoodRow (few : Int) (m : Nat) (row : List Pie) : Prop where
  len : row.length ≤ m
  each : ∀ p ∈ row, 0 ≤ p.1 ∧ p.1 ≤ 1000000000000 ∧ 0 ≤ p.2.1 ∧ p.2.1 < few ∧ 1 ≤ p.2.2.1 ∧ p.2.2.1 ≤ 1000000 ∧ 1 ≤ p.2.2.2 ∧ p.2.2.2 ≤ 1000000
  up : row.Pairwise fun a b => a.1 ≤ b.1
end Y

namespace Y
open PySem L2
/-! ## what is walked -/
section
variable {Z : Bs} {F H F' H' : Hp} {σ σ' : L2.St} {Γ Γ' : Gm} {Ω Ω' : Om} {K : PySem.W.Frag} {te ta tb tl : TE} {tt : TT} {R Rx Ry : As} {Rs Ss : List As} {n : L2.St → Hp → Prop} {r : VK} {bk ct : L2.St → Hp → Prop}
/-- a source: its items, from the first to the last, each as f tells of it -/
def Src {α : Type} (Γ : Gm) (Ω : Om) (wi : TI) (xs : List α) (f : α → As) : Prop := ∀ (Z : Bs) (F H : Hp) (σ : L2.St), Ctx Z F H σ Γ Ω → ∀ R : It → Hp → Prop,
  (∀ J F1 H1, Ctx Z F1 H1 σ Γ Ω → Ext [] F H F1 H1 → (∀ (Z' : Bs) (F2 H2 : Hp) (σ2 : L2.St) (Γ2 : Gm) (Ω2 : Om), Ctx Z' F2 H2 σ2 Γ2 Ω2 → Same F1 F2 →
    J.stop xs.length H2 ∧ ∀ i x, xs[i]? = some x → J.go i H2 ∧ ∀ v H3, J.yld i H2 v H3 → ∃ F3, Ext [] F2 H2 F3 H3 ∧ Same F3 H3 ∧ (f x).p F3 v) → R J H1) → wi σ H R
theorem src_l {α : Type} {xs : List α} {f : α → As} (e : Ev Γ Ω tl (Ls K (xs.map f))) : Src Γ Ω (iList K tl) xs f := fun Z F H σ c R q => e Z F H σ c _ fun v F1 H1 c1 s1 rv => by
  obtain ⟨a, ys, ea, hs, hl⟩ := rv
  have hly : ys.length = xs.length := by rw [hl.length, List.length_map]
  refine ⟨a, ea, ⟨ys, c1.sub.seq hs⟩, q _ F1 H1 c1 s1 fun Z' F2 H2 σ2 Γ2 Ω2 c2 s2 => ?_⟩
  have hs2 := c2.sub.seq (s2.seq hs)
  refine ⟨⟨ys, hs2, Nat.le_of_eq hly⟩, fun i x hx => ?_⟩
  have hz : (xs.map f)[i]? = some (f x) := by rw [List.getElem?_map, hx]; rfl
  obtain ⟨y, ey, ry⟩ := hl.get hz
  refine ⟨⟨ys, y, hs2, ey⟩, fun v H3 hy => ?_⟩
  obtain ⟨e1, e2⟩ := hy
  subst e1
  have := e2 ys hs2
  rw [ey] at this
  cases this
  exact ⟨F2, Ext.refl _ _ _, c2.sub, (f x).mono s2 ry⟩
theorem src_t {α : Type} {xs : List α} {f : α → As} (e : Ev Γ Ω tl (Tp K (xs.map f))) : Src Γ Ω (iTup K tl) xs f := fun Z F H σ c R q => e Z F H σ c _ fun v F1 H1 c1 s1 rv => by
  obtain ⟨a, ys, ea, hs, hl⟩ := rv
  have hly : ys.length = xs.length := by rw [hl.length, List.length_map]
  refine ⟨a, ea, ⟨ys, same_seqT c1.sub hs⟩, q _ F1 H1 c1 s1 fun Z' F2 H2 σ2 Γ2 Ω2 c2 s2 => ?_⟩
  have hs2 := same_seqT c2.sub (same_seqT s2 hs)
  refine ⟨⟨ys, hs2, Nat.le_of_eq hly⟩, fun i x hx => ?_⟩
  have hz : (xs.map f)[i]? = some (f x) := by rw [List.getElem?_map, hx]; rfl
  obtain ⟨y, ey, ry⟩ := hl.get hz
  refine ⟨⟨ys, y, hs2, ey⟩, fun v H3 hy => ?_⟩
  obtain ⟨e1, e2⟩ := hy
  subst e1
  have := e2 ys hs2
  rw [ey] at this
  cases this
  exact ⟨F2, Ext.refl _ _ _, c2.sub, (f x).mono s2 ry⟩
/-- enumerate of a list: the pairs of place and item -/
def Et (K : PySem.W.Frag) {α : Type} (f : α → As) (p : α × Nat) : As := Tp K [I (p.2 : Int), f p.1]
theorem src_e {α : Type} {xs : List α} {f : α → As} {ta : TA} (e : EvA Γ Ω ta [Ls K (xs.map f)]) : Src Γ Ω (iEnum K ta) xs.zipIdx (Et K f) := fun Z F H σ c R q => e Z F H σ c _ fun vs F1 H1 c1 s1 rv => by
  obtain ⟨v, rfl, a, ys, ea, hs, hl⟩ := rv.one
  subst ea
  have hly : ys.length = xs.length := by rw [hl.length, List.length_map]
  refine ⟨a, ys, rfl, c1.sub.seq hs, q _ F1 H1 c1 s1 fun Z' F2 H2 σ2 Γ2 Ω2 c2 s2 => ?_⟩
  have hs2 := c2.sub.seq (s2.seq hs)
  refine ⟨⟨ys, hs2, by rw [List.length_zipIdx]; exact Nat.le_of_eq hly⟩, fun i x hx => ?_⟩
  rw [List.getElem?_zipIdx] at hx
  obtain ⟨x0, hx0, ex⟩ := Option.map_eq_some_iff.mp hx
  subst ex
  have hz : (xs.map f)[i]? = some (f x0) := by rw [List.getElem?_map, hx0]; rfl
  obtain ⟨y, ey, ry⟩ := hl.get hz
  refine ⟨⟨ys, y, hs2, ey⟩, fun v H3 hy => ?_⟩
  obtain ⟨T, x', ev, hT, eH, e2⟩ := hy
  subst ev eH
  have := e2 ys hs2
  rw [ey] at this
  cases this
  obtain ⟨e3, s3⟩ := Ext.new (o := .tup [.int (i : Nat), y]) c2.sub hT
  refine ⟨_, e3, s3, T, _, rfl, SqT.of upd_same, ?_, (f x0).mono (s2.trans e3.fe) ry, trivial⟩
  show V.int _ = V.int _
  simp
theorem src_r1 {ta : TA} {j : Int} (e : EvA Γ Ω ta [I j]) (h0 : -(2 ^ 62) ≤ j) (h1 : j < 2 ^ 62) : Src Γ Ω (iRng1 ta) (List.range j.toNat) (fun k => I (k : Int)) := fun Z F H σ c R q => e Z F H σ c _ fun vs F1 H1 c1 s1 rv => by
  obtain ⟨v, rfl, ev⟩ := rv.one
  cases ev
  refine ⟨j, rfl, h0, h1, q _ F1 H1 c1 s1 fun Z' F2 H2 σ2 Γ2 Ω2 c2 s2 => ?_⟩
  refine ⟨by rw [List.length_range]; exact Nat.le_refl _, fun i x hx => ?_⟩
  obtain ⟨hi, ei⟩ := List.getElem?_eq_some_iff.mp hx
  rw [List.length_range] at hi
  rw [List.getElem_range] at ei
  subst ei
  refine ⟨hi, fun v H3 hy => ?_⟩
  obtain ⟨e1, e2⟩ := hy
  subst e1 e2
  exact ⟨F2, Ext.refl _ _ _, c2.sub, by show V.int (0 + (i : Int)) = V.int (i : Int); rw [Int.zero_add]⟩
theorem src_r2 {ta : TA} {i j : Int} (e : EvA Γ Ω ta [I i, I j]) (h : -(2 ^ 62) ≤ i ∧ i < 2 ^ 62 ∧ -(2 ^ 62) ≤ j ∧ j < 2 ^ 62) : Src Γ Ω (iRng2 ta) (List.range (j - i).toNat) (fun k => I (i + (k : Int))) := fun Z F H σ c R q => e Z F H σ c _ fun vs F1 H1 c1 s1 rv => by
  obtain ⟨v, w, rfl, ev, ew⟩ := rv.two
  cases ev; cases ew
  refine ⟨i, j, rfl, h, q _ F1 H1 c1 s1 fun Z' F2 H2 σ2 Γ2 Ω2 c2 s2 => ?_⟩
  refine ⟨by rw [List.length_range]; exact Nat.le_refl _, fun k x hx => ?_⟩
  obtain ⟨hi, ei⟩ := List.getElem?_eq_some_iff.mp hx
  rw [List.length_range] at hi
  rw [List.getElem_range] at ei
  subst ei
  refine ⟨hi, fun v H3 hy => ?_⟩
  obtain ⟨e1, e2⟩ := hy
  subst e1 e2
  exact ⟨F2, Ext.refl _ _ _, c2.sub, rfl⟩
theorem src_r3 {ta : TA} {i j : Int} (e : EvA Γ Ω ta [I i, I j, I (-1)]) (h : -(2 ^ 62) ≤ i ∧ i < 2 ^ 62 ∧ -(2 ^ 62) ≤ j ∧ j < 2 ^ 62) : Src Γ Ω (iRng3 ta) (List.range (i - j).toNat) (fun k => I (i - (k : Int))) := fun Z F H σ c R q => e Z F H σ c _ fun vs F1 H1 c1 s1 rv => by
  match vs, rv.length with
  | [v, w, u], _ =>
    obtain ⟨ev, ew, eu, _⟩ := rv
    cases ev; cases ew; cases eu
    refine ⟨i, j, -1, _, rfl, RgC.neg h.1 h.2.1 h.2.2.1 h.2.2.2, q _ F1 H1 c1 s1 fun Z' F2 H2 σ2 Γ2 Ω2 c2 s2 => ?_⟩
    refine ⟨by rw [List.length_range]; exact Nat.le_refl _, fun k x hx => ?_⟩
    obtain ⟨hi, ei⟩ := List.getElem?_eq_some_iff.mp hx
    rw [List.length_range] at hi
    rw [List.getElem_range] at ei
    subst ei
    refine ⟨hi, fun v H3 hy => ?_⟩
    obtain ⟨e1, e2⟩ := hy
    subst e1 e2
    exact ⟨F2, Ext.refl _ _ _, c2.sub, by show V.int _ = V.int _; congr 1; omega⟩
theorem src_len {wi : TI} {f : Nat → As} {a b : Nat} (h : Src Γ Ω wi (List.range ((a : Int)).toNat) f) (e : a = b) : Src Γ Ω wi (List.range ((b : Int)).toNat) f := e ▸ h
/-! ## for, comprehensions over any of these -/
theorem st_forS {ι α : Type} {wi : TI} {g : TG} {tb : TS} {xs : List α} {f : α → As} (G : ι → Gm) (G' : α → ι → Gm) (O : ι → Om) (P : Nat → ι → Prop) {ws : List Nat} (i0 : ι) (c : Ctx Z F H σ (G i0) (O i0)) (e : Src (G i0) (O i0) wi xs f) (p0 : P 0 i0)
    (hg : ∀ x i, Gt (G i) (f x) g (G' x i) ws)
    (body : ∀ k x i G1 F H σ (N : L2.St → Hp → Prop), xs[k]? = some x → P k i → Ctx (Z.pin G1) F H σ (G' x i) (O i) → (∀ j F' H' σ', P (k + 1) j → Ctx (Z.pin G1) F' H' σ' (G j) (O j) → N σ' H') → tb ⟨N, r, n, N⟩ σ H)
    (hd : ∀ i F H σ, P xs.length i → Ctx Z F H σ (G i) (O i) → n σ H) : tFor wi g tb ⟨n, r, bk, ct⟩ σ H := by
  refine e Z F H σ c _ fun J F1 H1 c1 s1 src => ?_
  refine ⟨fun k m σ H => m = xs.length - k ∧ k ≤ xs.length ∧ ∃ i F, P k i ∧ Ctx (Z.pin F1) F H σ (G i) (O i), ⟨_, rfl, Nat.zero_le _, i0, F1, p0, c1.topin (Same.refl _)⟩, ?_⟩
  rintro k m σ H ⟨rfl, hkn, i, F, p, cc⟩
  obtain ⟨stop, go⟩ := src _ F H σ _ _ cc cc.pin
  rcases Nat.lt_or_eq_of_le hkn with hk | hk
  · have hx : xs[k]? = some xs[k] := List.getElem?_eq_getElem hk
    obtain ⟨g1, yl⟩ := go k xs[k] hx
    refine .inr ⟨g1, fun σ' H' => ∃ i F, P (k + 1) i ∧ Ctx (Z.pin F1) F H' σ' (G i) (O i), fun σ' H' p' => ⟨xs.length - (k + 1), by omega, rfl, hk, p'⟩, fun v H3 hy => ?_⟩
    obtain ⟨F3, e3, s3, rv⟩ := yl v H3 hy
    refine hg xs[k] i (Z.pin F1) F3 H3 σ v (O i) (cc.step e3 s3) rv _ fun σ' c' _ => ?_
    exact body k xs[k] i F1 F3 H3 σ' _ hx p c' fun j F' H' σ'' pj cj => ⟨j, F', pj, cj⟩
  · subst hk
    exact .inl ⟨stop, hd i F H σ p (cc.unpin c1.pin)⟩
theorem ev_lcS {α : Type} {wi : TI} {xs : List α} {f : α → As} {g : TG} {vs : List Nat} (G' : α → Gm) (cd : α → Bool) (res : α → As) {ws : List Nat} (e : Src Γ Ω wi xs f) (hg : ∀ x, Gt (wipeG Γ vs) (f x) g (G' x) ws) (hw : ∀ i ∈ ws, i ∈ vs)
    (ht : ∀ x ∈ xs, EvT (G' x) Ω tt (cd x)) (he : ∀ x ∈ xs, cd x = true → Ev (G' x) Ω te (res x)) (hlen : xs.length ≤ 100000) : Ev Γ Ω (tLc wi g tt te vs) (Ls K ((xs.filter cd).map res)) := fun Z F H σ c Q q =>
  e Z F H σ c _ fun J F1 H1 c1 s1 src => by
    intro D hD
    have cw : Ctx Z F1 H1 (L2.wipe σ vs) (wipeG Γ vs) Ω := c1.slots (c1.sat.wipe vs)
    let Pv : Nat → Hp → Prop := (fun k H' => ∃ F' acc, H' D = some (.lst acc) ∧ acc.length ≤ k ∧ All F' (((xs.take k).filter cd).map res) acc ∧ F' D = none ∧ ∃ G, Ctx Z F' G (L2.wipe σ vs) (wipeG Γ vs) Ω ∧ Ext [] F1 H1 F' G ∧ G D = none ∧ H' = upd G D (.lst acc))
    refine ⟨fun i m H => m = xs.length - i ∧ i ≤ xs.length ∧ Pv i H, ⟨_, rfl, Nat.zero_le _, F1, [], upd_same, Nat.zero_le _, trivial, c1.sub.free hD, H1, cw, Ext.refl _ _ _, hD, rfl⟩, ?_⟩
    rintro k m Hc ⟨rfl, hkn, pk⟩
    rcases Nat.lt_or_eq_of_le hkn with hk | hk
    · obtain ⟨F', acc, hA, hlA, hall, hFD, G, cG, eG, hGD, rfl⟩ := pk
      have hx : xs[k]? = some xs[k] := List.getElem?_eq_getElem hk
      have hmem : xs[k] ∈ xs := List.getElem_mem hk
      have cA0 : Ctx Z F' (upd G D (.lst acc)) (L2.wipe σ vs) (wipeG Γ vs) Ω := (cG.grow (A := ⟨fun _ _ => True, fun _ h => h⟩) (p := D) (o := .lst acc) hGD trivial).tail
      obtain ⟨go, yl⟩ := (src Z F' _ _ _ _ cA0 eG.fe).2 k xs[k] hx
      refine .inr ⟨go, Pv (k + 1), fun H' p' => ⟨xs.length - (k + 1), by omega, rfl, hk, p'⟩, fun y H' hy => ?_⟩
      obtain ⟨F0, e0, s0, ry⟩ := yl y H' hy
      -- the list that is being made, as something owned
      have cA : Ctx Z F0 H' (L2.wipe σ vs) (wipeG Γ vs) Ω := cA0.step e0 s0
      have pres : ∀ {F2 H2 : Hp}, Ext [] F' (upd G D (.lst acc)) F2 H2 → H2 D = some (.lst acc) := fun e2 => e2.fr D _ upd_same List.not_mem_nil
      have back : ∀ {F2 H2 : Hp} {σ2 : L2.St} {Γ2 : Gm}, Ctx Z F2 H2 σ2 Γ2 Ω → Ext [] F' (upd G D (.lst acc)) F2 H2 → F2 D = none ∧ ∃ G2, Ctx Z F2 G2 (L2.wipe σ vs) (wipeG Γ vs) Ω ∧ Ext [] F1 H1 F2 G2 ∧ G2 D = none ∧ ∀ o, upd H2 D o = upd G2 D o := fun {F2 H2 σ2 Γ2} c2 e2 => by
        have f2 : F2 D = none := e2.nw D (by rw [upd_same]; exact fun z => by cases z) hFD
        let G2 : Hp := fun b => if b = D then none else H2 b
        have g2 : ∀ b, b ≠ D → G2 b = H2 b := fun b hb => if_neg hb
        have gD : G2 D = none := if_pos rfl
        have hext : Ext [] F' G F2 G2 := by
          refine ⟨e2.fe, fun b o h hn => ?_, fun b h => ?_, fun b h1 h2 => ?_⟩
          · have hb : b ≠ D := ne_of_none h hGD
            rw [g2 b hb]
            exact e2.fr b o (by rw [upd_ne hb]; exact h) hn
          · by_cases hb : b = D
            · rw [hb]; exact hGD
            · rw [g2 b hb] at h
              have := e2.dm b h
              rw [upd_ne hb] at this
              exact this
          · have hb : b ≠ D := fun z => h1 (by rw [z]; exact hGD)
            exact e2.nw b (by rw [upd_ne hb]; exact h1) h2
        have hsub : Same F2 G2 := fun b o h => by
          have hb : b ≠ D := ne_of_none h f2
          rw [g2 b hb]
          exact c2.sub b o h
        refine ⟨f2, G2, cG.step hext hsub, eG.trans hext, gD, fun o => ?_⟩
        funext b
        unfold upd
        by_cases hb : b = D
        · rw [if_pos hb, if_pos hb]
        · rw [if_neg hb, if_neg hb, g2 b hb]
      refine hg xs[k] Z F0 _ (L2.wipe σ vs) y Ω cA ry _ fun σ2 c2 hσ => ⟨(hσ vs hw).trans ?_, ?_⟩
      · exact wipe_wipe σ vs
      refine ht xs[k] hmem Z F0 _ σ2 c2 _ fun F3 H3 c3 e3' => ?_
      have e3 := e0.trans e3'
      cases hc : cd xs[k] with
      | false =>
        refine iteF ?_
        obtain ⟨f3, G3, cG3, eG3, gD3, up3⟩ := back c3 e3
        refine ⟨F3, acc, pres e3, by omega, ?_, f3, G3, cG3, eG3, gD3, ?_⟩
        · rw [filter_take hx, hc, if_neg Bool.false_ne_true, List.append_nil]
          exact hall.mono e3.fe
        · have := up3 (.lst acc)
          rw [← this]
          funext b
          unfold upd
          by_cases hb : b = D
          · rw [if_pos hb, hb]; exact pres e3
          · rw [if_neg hb]
      | true =>
        refine iteT ?_
        refine he xs[k] hmem hc Z F3 H3 σ2 c3 _ fun w F4 H4 c4 e4 rw' => ?_
        have e34 := e3.trans e4
        obtain ⟨f4, G4, cG4, eG4, gD4, up4⟩ := back c4 e34
        refine ⟨acc, pres e34, Nat.lt_of_le_of_lt (Nat.le_trans hlA (Nat.le_of_lt (Nat.lt_of_lt_of_le hk hlen))) (by decide), F4, acc ++ [w], upd_same, by rw [List.length_append]; exact Nat.succ_le_succ hlA, ?_, f4, G4, cG4, eG4, gD4, up4 _⟩
        rw [filter_take hx, hc, if_pos rfl, List.map_append]
        exact (hall.mono e34.fe).app ⟨rw', trivial⟩
    · subst hk
      obtain ⟨F', acc, hA, _, hall, hFD, G, cG, eG, hGD, rfl⟩ := pk
      have cA0 : Ctx Z F' (upd G D (.lst acc)) (L2.wipe σ vs) (wipeG Γ vs) Ω := (cG.grow (A := ⟨fun _ _ => True, fun _ h => h⟩) (p := D) (o := .lst acc) hGD trivial).tail
      refine .inl ⟨(src Z F' _ _ _ _ cA0 eG.fe).1, ?_⟩
      rw [List.take_length] at hall
      obtain ⟨e', s'⟩ := Ext.new (o := .lst acc) cG.sub hGD
      exact q _ _ _ (c1.step (eG.trans e') s') (s1.trans (eG.trans e')) ⟨D, acc, rfl, SqL.of upd_same, hall.mono e'.fe⟩

theorem ev_lcSA {α : Type} {wi : TI} {xs : List α} {f : α → As} {g : TG} {vs : List Nat} (G' : α → Gm) (res : α → As) {ws : List Nat} (e : Src Γ Ω wi xs f) (hg : ∀ x, Gt (wipeG Γ vs) (f x) g (G' x) ws) (hw : ∀ i ∈ ws, i ∈ vs)
    (he : ∀ x ∈ xs, Ev (G' x) Ω te (res x)) (hlen : xs.length ≤ 100000) : Ev Γ Ω (tLc wi g tYes te vs) (Ls K (xs.map res)) := by
  have z := ev_lcS (K := K) (te := te) (tt := tYes) G' (fun _ => true) res e hg hw (fun _ _ => et_yes) (fun x hx _ => he x hx) hlen
  rw [List.filter_eq_self.mpr (fun _ _ => rfl)] at z
  exact z
end
/-! ## what may be None -/
def Op {α : Type} (R : α → As) : Option α → As
  | none => Nn
  | some x => R x
/-- never None -/
def Nev (R : As) : Prop := ∀ F v, R.p F v → v ≠ .non
section
variable {Γ : Gm} {Ω : Om} {K : PySem.W.Frag} {ta tb : TE}
theorem nev_tp {Rs : List As} : Nev (Tp K Rs) := fun F v h e => by
  obtain ⟨a, xs, e', _⟩ := h
  rw [e] at e'; cases e'
theorem nev_ls {Rs : List As} : Nev (Ls K Rs) := fun F v h e => by
  obtain ⟨a, xs, e', _⟩ := h
  rw [e] at e'; cases e'
theorem nev_c {w : V} (h : w ≠ .non) : Nev (Cst w) := fun F v e z => h (e.symm.trans z)
theorem op_is {α : Type} {R : α → As} (h : ∀ x, Nev (R x)) {o : Option α} {F : Hp} {v : V} (r : (Op R o).p F v) : decide (v = .non) = o.isNone := by
  cases o with
  | none =>
    have e : v = .non := r
    subst e; rfl
  | some x => exact decide_eq_false (h x F v r)
theorem ev_isNO {α : Type} {R : α → As} {o : Option α} (h : ∀ x, Nev (R x)) (ha : Ev Γ Ω ta (Op R o)) : Ev Γ Ω (tOp (fun x y H Q => y = .non ∧ Q (.bl (decide (x = .non))) H) ta (tC .non)) (B o.isNone) := fun Z F H σ c Q q =>
  ha Z F H σ c _ fun x F1 H1 c1 s1 rx => ⟨rfl, by rw [op_is h rx]; exact q _ F1 H1 c1 s1 rfl⟩
theorem ev_notNO {α : Type} {R : α → As} {o : Option α} (h : ∀ x, Nev (R x)) (ha : Ev Γ Ω ta (Op R o)) : Ev Γ Ω (tOp (fun x y H Q => y = .non ∧ Q (.bl (!decide (x = .non))) H) ta (tC .non)) (B (!o.isNone)) := fun Z F H σ c Q q =>
  ha Z F H σ c _ fun x F1 H1 c1 s1 rx => ⟨rfl, by rw [op_is h rx]; exact q _ F1 H1 c1 s1 rfl⟩
theorem ev_isBl {a b : Bool} (ha : Ev Γ Ω ta (B a)) (hb : Ev Γ Ω tb (B b)) : Ev Γ Ω (tOp rIsB ta tb) (B (decide (a = b))) := ev_op ha hb fun F H x y s e e' Q q => ⟨a, b, e, e', q _ F H (Ext.refl _ _ _) s rfl⟩
theorem ev_notBl {a b : Bool} (ha : Ev Γ Ω ta (B a)) (hb : Ev Γ Ω tb (B b)) : Ev Γ Ω (tOp rNotB ta tb) (B (!decide (a = b))) := ev_op ha hb fun F H x y s e e' Q q => ⟨a, b, e, e', q _ F H (Ext.refl _ _ _) s rfl⟩
end
end Y

namespace Y
open PySem L2 PySem.Spec
open PyProof.Rows (envOfC)
/-! ## instances -/
def AllF (F : Hp) : List (Str × As) → List (Str × V) → Prop
  | [], [] => True
  | (f, R) :: r, (g, v) :: vs => f = g ∧ R.p F v ∧ AllF F r vs
  | _, _ => False
theorem AllF.mono {F F' : Hp} (s : Same F F') : ∀ {fs : List (Str × As)} {vs : List (Str × V)}, AllF F fs vs → AllF F' fs vs
  | [], [], _ => trivial
  | (_, R) :: _, (_, _) :: _, h => ⟨h.1, R.mono s h.2.1, AllF.mono s h.2.2⟩
  | [], _ :: _, h => h.elim
  | _ :: _, [], h => h.elim
theorem AllF.length {F : Hp} : ∀ {fs : List (Str × As)} {vs : List (Str × V)}, AllF F fs vs → vs.length = fs.length
  | [], [], _ => rfl
  | (_, _) :: _, (_, _) :: _, h => congrArg (· + 1) (AllF.length h.2.2)
  | [], _ :: _, h => h.elim
  | _ :: _, [], h => h.elim
theorem AllF.get {F : Hp} {f : Str} {R : As} : ∀ {fs : List (Str × As)} {vs : List (Str × V)}, AllF F fs vs → fs.lookup f = some R → ∃ v, vs.lookup f = some v ∧ R.p F v
  | [], [], _, e => by simp at e
  | (g, S) :: r, (g', v) :: vs, h, e => by
    obtain ⟨h1, h2, h3⟩ := h
    subst h1
    rw [List.lookup_cons] at e ⊢
    cases q : (f == g) with
    | true =>
      rw [q] at e
      have e' : S = R := Option.some.inj e
      subst e'
      exact ⟨v, rfl, h2⟩
    | false =>
      rw [q] at e
      exact AllF.get h3 e
  | [], _ :: _, h, _ => h.elim
  | _ :: _, [], h, _ => h.elim
theorem AllF.none {F : Hp} {f : Str} : ∀ {fs : List (Str × As)} {vs : List (Str × V)}, AllF F fs vs → fs.lookup f = none → vs.lookup f = none
  | [], [], _, _ => rfl
  | (g, S) :: r, (g', v) :: vs, h, e => by
    obtain ⟨h1, h2, h3⟩ := h
    subst h1
    rw [List.lookup_cons] at e ⊢
    cases q : (f == g) with
    | true =>
      rw [q] at e
      cases e
    | false =>
      rw [q] at e
      exact AllF.none h3 e
  | [], _ :: _, h, _ => h.elim
  | _ :: _, [], h, _ => h.elim
def putA (f : Str) (R : As) : List (Str × As) → List (Str × As)
  | [] => [(f, R)]
  | (g, S) :: r => if g = f then (g, R) :: r else (g, S) :: putA f R r
theorem AllF.put {F : Hp} {f : Str} {R : As} {v : V} (q : R.p F v) : ∀ {fs : List (Str × As)} {vs : List (Str × V)}, AllF F fs vs → AllF F (putA f R fs) (putF f v vs)
  | [], [], _ => ⟨rfl, q, trivial⟩
  | (g, S) :: r, (g', w) :: vs, h => by
    obtain ⟨h1, h2, h3⟩ := h
    subst h1
    unfold putA putF
    split
    · exact ⟨rfl, q, h3⟩
    · exact ⟨rfl, h2, AllF.put q h3⟩
  | [], _ :: _, h => h.elim
  | _ :: _, [], h => h.elim
def oI (C dx : Addr) (fs : List (Str × As)) : OA := ⟨fun F o => ∃ vs, o = .ins C dx vs ∧ AllF F fs vs, fun s h => by
  obtain ⟨vs, e, q⟩ := h; exact ⟨vs, e, q.mono s⟩⟩
section
variable {Z : Bs} {F H F' H' : Hp} {σ σ' : L2.St} {Γ Γ' : Gm} {Ω Ω' : Om} {K : PySem.W.Frag} {te ta tb tl : TE} {tt : TT} {R Rx Ry : As} {Rs Ss : List As} {n : L2.St → Hp → Prop} {r : VK} {bk ct : L2.St → Hp → Prop} {p C dx : Addr} {fs : List (Str × As)} {f : Str} {j : Nat}
theorem ev_fld (ha : Ev Γ Ω ta (Rf p)) (hm : Ω[j]? = some (p, oI C dx fs)) (hc : Cls K C) (hn : NoAttr K C f) (hl : fs.lookup f = some R) : Ev Γ Ω (tFld K ta f) R := fun Z F H σ c Q q =>
  ha Z F H σ c _ fun x F1 H1 c1 s1 rx => by
    cases rx
    obtain ⟨_, o, h2, vs, e, ha⟩ := c1.own _ (List.mem_of_getElem? hm)
    subst e
    obtain ⟨v, e1, rv⟩ := ha.get hl
    exact ⟨p, C, dx, vs, v, rfl, h2, hc, hn, e1, q v F1 H1 c1 s1 rv⟩
theorem st_fld (c : Ctx Z F H σ Γ Ω) (e : Ev Γ Ω te R) (ha : Ev Γ Ω ta (Rf p)) (hm : Ω[j]? = some (p, oI C dx fs)) (hc : Cls K C) (hn : NoAttr K C f) (hl : fs.length < 1000) (k : ∀ F' H', Ctx Z F' H' σ Γ (Ω.set j (p, oI C dx (putA f R fs))) → Same F F' → n σ H') (hro : Z.ro = [] := by rfl) :
    sFld K ta te f ⟨n, r, bk, ct⟩ σ H := e Z F H σ c _ fun y F1 H1 c1 s1 ry => ha Z F1 H1 σ c1 _ fun x F2 H2 c2 s2 rx => by
  cases rx
  obtain ⟨_, o, h2, vs, eo, ha⟩ := c2.own _ (List.mem_of_getElem? hm)
  subst eo
  refine ⟨p, C, dx, vs, rfl, h2, hc, hn, by rw [ha.length]; exact hl, ?_⟩
  exact k F2 _ (c2.chg hm ⟨_, rfl, ha.put (R.mono s2.fe ry)⟩ (c2.wr hm hro)) (s1.trans s2).fe
end
/-! ## contracts of methods: those that read, those that change -/
def CtR {α : Type} (args : α → List As) (Oi : α → Om) (pre : α → Prop) (res : α → As) : Sp := fun vs H Q _ =>
  ∃ a F, Same F H ∧ All F (args a) vs ∧ Own F H (Oi a) ∧ ((Oi a).map (·.1)).Nodup ∧ pre a ∧ ∀ v F' H', Ext [] F H F' H' → Same F' H' → (res a).p F' v → Q v H'
def CtM {α : Type} (args : α → List As) (Oi : α → Om) (pre : α → Prop) (res : α → As) (Oo : α → Om) : Sp := fun vs H Q _ =>
  ∃ a F, Same F H ∧ All F (args a) vs ∧ Own F H (Oi a) ∧ ((Oi a).map (·.1)).Nodup ∧ pre a ∧ ∀ v F' H', Ext ((Oi a).map (·.1)) F H F' H' → Same F' H' → (res a).p F' v → Own F' H' (Oo a) → Q v H'
theorem CtR.len {α : Type} {args : α → List As} {Oi : α → Om} {pre : α → Prop} {res : α → As} {n : Nat} (h : ∀ a, (args a).length = n) : ∀ vs H Q E, CtR args Oi pre res vs H Q E → vs.length = n := by
  rintro vs H Q E ⟨a, F, _, ha, _⟩
  rw [ha.length, h]
theorem CtM.len {α : Type} {args : α → List As} {Oi Oo : α → Om} {pre : α → Prop} {res : α → As} {n : Nat} (h : ∀ a, (args a).length = n) : ∀ vs H Q E, CtM args Oi pre res Oo vs H Q E → vs.length = n := by
  rintro vs H Q E ⟨a, F, _, ha, _⟩
  rw [ha.length, h]
theorem ctx_startR {F H : Hp} {Rs : List As} {vs : List V} {N : List Str} {Ω : Om} (s : Same F H) (h : All F Rs vs) (o : Own F H Ω) (nd : (Ω.map (·.1)).Nodup) : Ctx ⟨F, H, [], F, Ω.map (·.1)⟩ F H (L2.start N vs) (Rs.map some ++ List.replicate (N.length - Rs.length) none) Ω := by
  refine ⟨?_, s, o, nd, fun x h => .inr (.inr (List.mem_map.mpr ⟨x, h, rfl⟩)), Ext.refl _ _ _, Same.refl _⟩
  unfold L2.start
  rw [h.length]
  exact sat_start _ h
theorem ctx_startM {F H : Hp} {Rs : List As} {vs : List V} {N : List Str} {Ω : Om} (s : Same F H) (h : All F Rs vs) (o : Own F H Ω) (nd : (Ω.map (·.1)).Nodup) : Ctx ⟨F, H, Ω.map (·.1), F, []⟩ F H (L2.start N vs) (Rs.map some ++ List.replicate (N.length - Rs.length) none) Ω := by
  refine ⟨?_, s, o, nd, fun x h => .inl (List.mem_map.mpr ⟨x, h, rfl⟩), Ext.refl _ _ _, Same.refl _⟩
  unfold L2.start
  rw [h.length]
  exact sat_start _ h
section
variable {Z : Bs} {F H F' H' : Hp} {σ σ' : L2.St} {Γ Γ' : Gm} {Ω Ω' Ωr : Om} {K : PySem.W.Frag} {te ta tb tl : TE} {tt : TT} {R Rx Ry : As} {Rs Ss : List As} {n : L2.St → Hp → Prop} {r : VK} {bk ct : L2.St → Hp → Prop} {p C dx : Addr} {fs : List (Str × As)} {f m : Str} {j : Nat} {E : XK}
theorem Own.sub (h : Own F H Ω) (s : ∀ x, x ∈ Ω' → x ∈ Ω) : Own F H Ω' := fun x hx => h x (s x hx)
theorem nodup_sub (h : (Ω.map (·.1)).Nodup) (s : Ω'.Sublist Ω) : (Ω'.map (·.1)).Nodup := (s.map _).nodup h
/-- o.m(e, ..), a method that reads -/
theorem ev_meth {α : Type} {args : α → List As} {Oi : α → Om} {pre : α → Prop} {res : α → As} {t : TA} (a : α) (ho : Ev Γ Ω ta (Rf p)) (hm : Ω[j]? = some (p, oI C dx fs)) (hn : fs.lookup m = none) (h : EvA Γ Ω t Rs) (ha : args a = Rf p :: Rs) (hs : (Oi a).Sublist Ω) (hp : pre a) :
    Ev Γ Ω (tMeth C m (CtR args Oi pre res) [] E ta t) (res a) := fun Z F H σ c Q q =>
  ho Z F H σ c _ fun x F1 H1 c1 s1 rx => by
    cases rx
    obtain ⟨_, o, h2, vs, eo, hf⟩ := c1.own _ (List.mem_of_getElem? hm)
    subst eo
    refine ⟨p, dx, vs, rfl, h2, hf.none hn, h Z F1 H1 σ c1 _ fun ws F2 H2 c2 s2 rs => ?_⟩
    refine ⟨a, F2, c2.sub, ?_, c2.own.sub fun x hx => hs.subset hx, nodup_sub c2.nd hs, hp, fun v F3 H3 e3 s3 rv => q v F3 H3 (c2.step e3 s3) (s1.trans (s2.trans e3)) rv⟩
    rw [ha, List.append_nil]
    exact ⟨rfl, rs⟩
theorem Ctx.perm (c : Ctx Z F H σ Γ Ω) (h : Ω.Perm Ω') : Ctx Z F H σ Γ Ω' :=
  ⟨c.sat, c.sub, fun x hx => c.own x (h.mem_iff.mpr hx), (h.map _).nodup_iff.mp c.nd, fun x hx => c.loc x (h.mem_iff.mpr hx), c.ext, c.pin⟩
/-- behind a call that changes what it owns -/
theorem Ctx.changed {Ωi Ωo : Om} (c : Ctx Z F H σ Γ (Ωi ++ Ωr)) (e : Ext (Ωi.map (·.1)) F H F' H') (s : Same F' H') (o : Own F' H' Ωo) (ha : Ωo.map (·.1) = Ωi.map (·.1)) (hro : Z.ro = []) : Ctx Z F' H' σ Γ (Ωo ++ Ωr) := by
  have nd := c.nd
  rw [List.map_append, List.nodup_append] at nd
  have dis : ∀ x, x ∈ Ωr → x.1 ∉ Ωi.map (·.1) := fun x hx hi => nd.2.2 _ hi _ (List.mem_map.mpr ⟨x, hx, rfl⟩) rfl
  have wr : ∀ a, a ∈ Ωi.map (·.1) → a ∈ Z.ft ∨ Z.H a = none := fun a ha => by
    obtain ⟨x, hx, rfl⟩ := List.mem_map.mp ha
    rcases c.loc x (List.mem_append_left _ hx) with l | l | l
    · exact .inl l
    · exact .inr l
    · rw [hro] at l; exact absurd l List.not_mem_nil
  refine ⟨c.sat.mono e.fe, s, fun x hx => ?_, ?_, fun x hx => ?_, c.ext.transL e wr, c.pin.trans e.fe⟩
  · rcases List.mem_append.mp hx with hx | hx
    · exact o x hx
    · obtain ⟨h1, o', h2, h3⟩ := c.own x (List.mem_append_right _ hx)
      exact ⟨e.nw _ (by rw [h2]; exact fun z => by cases z) h1, o', e.fr _ _ h2 (dis x hx), x.2.mono e.fe h3⟩
  · rw [List.map_append, ha, ← List.map_append]
    exact c.nd
  · rcases List.mem_append.mp hx with hx | hx
    · have : x.1 ∈ Ωi.map (·.1) := by rw [← ha]; exact List.mem_map.mpr ⟨x, hx, rfl⟩
      rcases wr _ this with l | l
      · exact .inl l
      · exact .inr (.inl l)
    · exact c.loc x (List.mem_append_right _ hx)
/-- o.m(e, ..), a method that changes; k: behind it, with its value -/
theorem st_meth {α : Type} {args : α → List As} {Oi Oo : α → Om} {pre : α → Prop} {res : α → As} {t : TA} {Q : VK} (a : α) (c : Ctx Z F H σ Γ Ω) (ho : Ev Γ Ω ta (Rf p)) (hm : Ω[j]? = some (p, oI C dx fs)) (hn : fs.lookup m = none) (h : EvA Γ Ω t Rs) (ha : args a = Rf p :: Rs) (hs : Ω.Perm (Oi a ++ Ωr)) (hp : pre a)
    (hoo : (Oo a).map (·.1) = (Oi a).map (·.1)) (k : ∀ v F' H', Ctx Z F' H' σ Γ (Oo a ++ Ωr) → Same F F' → (res a).p F' v → Q v H') (hro : Z.ro = [] := by rfl) : tMeth C m (CtM args Oi pre res Oo) [] E ta t σ H Q :=
  ho Z F H σ c _ fun x F1 H1 c1 s1 rx => by
    cases rx
    obtain ⟨_, o, h2, vs, eo, hf⟩ := c1.own _ (List.mem_of_getElem? hm)
    subst eo
    refine ⟨p, dx, vs, rfl, h2, hf.none hn, h Z F1 H1 σ c1 _ fun ws F2 H2 c2 s2 rs => ?_⟩
    have cp := c2.perm hs
    refine ⟨a, F2, c2.sub, ?_, cp.own.sub fun x hx => List.mem_append_left _ hx, ?_, hp, fun v F3 H3 e3 s3 rv ow => k v F3 H3 (cp.changed e3 s3 ow hoo hro) ((s1.trans s2).fe.trans e3.fe) rv⟩
    · rw [ha, List.append_nil]
      exact ⟨rfl, rs⟩
    · have nd := cp.nd
      rw [List.map_append, List.nodup_append] at nd
      exact nd.1
/-- C(e, ..): a new instance -/
theorem st_make {α : Type} {args : α → Addr → List As} {Oi Oo : α × Addr × Addr → Om} {pre : α × Addr × Addr → Prop} {res : α × Addr × Addr → As} {t : TA} {Q : VK} (a : α) (c : Ctx Z F H σ Γ Ω) (h : EvA Γ Ω t Rs) (ha : ∀ x, args a x = Rf x :: Rs) (hoi : ∀ x dx, Oi (a, x, dx) = [(x, oI C dx [])]) (hp : ∀ x dx, pre (a, x, dx)) (hr : ∀ x dx F v, (res (a, x, dx)).p F v → v = .non)
    (hoo : ∀ x dx, (Oo (a, x, dx)).map (·.1) = [x]) (k : ∀ x dx F' H', Ctx Z F' H' σ Γ (Oo (a, x, dx) ++ Ω) → Same F F' → Q (.ref x) H') (hro : Z.ro = [] := by rfl) : tMake C (CtM (fun b : α × Addr × Addr => args b.1 b.2.1) Oi pre res Oo) [] E t σ H Q :=
  h Z F H σ c _ fun vs F1 H1 c1 s1 rs => by
    intro x dx hx hd hne
    have c2 := (c1.grow (p := dx) (o := .own x) (A := ⟨fun _ _ => True, fun _ h => h⟩) hd trivial).tail
    have hx2 : upd H1 dx (.own x) x = none := by rw [upd_ne (Ne.symm hne)]; exact hx
    have c3 := c2.grow (p := x) (o := .ins C dx []) (A := oI C dx []) hx2 ⟨[], rfl, trivial⟩
    have c3' : Ctx Z F1 (upd (upd H1 dx (.own x)) x (.ins C dx [])) σ Γ (Oi (a, x, dx) ++ Ω) := by rw [hoi]; exact c3
    refine ⟨(a, x, dx), F1, c3.sub, ?_, c3'.own.sub fun y hy => List.mem_append_left _ hy, by rw [hoi]; simp, hp x dx, fun v F3 H3 e3 s3 rv ow => ⟨hr x dx _ _ rv, ?_⟩⟩
    · dsimp only
      rw [ha, List.append_nil]
      exact ⟨rfl, rs⟩
    · exact k x dx F3 H3 (c3'.changed e3 s3 ow (by rw [hoo, hoi]; rfl) hro) (s1.fe.trans e3.fe)
end
end Y

namespace Y
open PySem L2 PySem.Spec
open PyProof.Rows (envOfC)
/-! ## methods of the text -/
structure Tm (K : PySem.W.Frag) (C : Addr) (m qual : Str) (st : Stmt) (ps : List Str) : Prop where
  ex : ∃ f fd, Fun K m qual st f fd ∧ Meth K C m f ∧ Binds K fd ps []
structure Dm (P : Program) (w : World) (K : PySem.W.Frag) (mg : Str → Option Value) (base : Heap) (k : Nat) (C : Addr) (m : Str) (ps : List Str) (sp : Sp) : Prop where
  ex : ∃ f fd, Meth K C m f ∧ Binds K fd ps [] ∧ FnOk P w K mg base (L2N.CX P w) k f fd ps sp
/-- __init__, with the defaults dvs that a call leaves out -/
structure Ti (K : PySem.W.Frag) (C : Addr) (qual : Str) (st : Stmt) (ps : List Str) (dvs : List V) : Prop where
  ex : ∃ f fd ds dall, Mk K C f ∧ FunD K "__init__" qual (defArgs st) (defBody st) (defScope st) dall [] f fd ∧ Vals dvs ds ∧ Binds K fd ps ds
structure Di (P : Program) (w : World) (K : PySem.W.Frag) (mg : Str → Option Value) (base : Heap) (k : Nat) (C : Addr) (ps : List Str) (dvs : List V) (sp : Sp) : Prop where
  ex : ∃ f fd ds, Mk K C f ∧ Vals dvs ds ∧ Binds K fd ps ds ∧ FnOk P w K mg base (L2N.CX P w) k f fd ps sp
/-- a class of the text -/
structure Tc (K : PySem.W.Frag) (mg : Str → Option Value) (C : Addr) (x : Str) : Prop where
  g : mg x = some (.ref C)
  cl : Cls K C
section
variable {P : Program} {w : World} {K : PySem.W.Frag} {mg : Str → Option Value} {base : Heap} {C : Addr} {m qual : Str} {st : Stmt} {N ps : List Str} {k : Nat} {sp : Sp} {dvs : List V}
theorem Tm.ok (T : Tm K C m qual st ps) (S : FnScope N ps (defScope st)) (len : ∀ vs H Q E, sp vs H Q E → vs.length = ps.length)
    (hbody : ∀ (f : Addr) (cdv : Value) (A : Around) (outer : List Env) (s : Shared) (H : Hp) (vs : List V) (Q : VK) (E : XK), Room k (A.deeper (envOfC qual (defScope st) s.heap.objs.size f cdv)) → sp vs H Q E →
      ∃ t, PSs (cxOf CX0 P w K mg base N qual (defScope st) f cdv A outer s H E).nox (defBody st) t ∧ t { nx := fun _ H' => Q .non H', rt := Q } (L2.start N vs) H) : Dm P w K mg base (k + 1) C m ps sp := by
  obtain ⟨f, fd, F, hm, b⟩ := T.ex
  exact ⟨f, fd, hm, b, FnOk_x (F.ok S len (hbody f))⟩
theorem Ti.ok (T : Ti K C qual st ps dvs) (S : FnScope N ps (defScope st)) (len : ∀ vs H Q E, sp vs H Q E → vs.length = ps.length)
    (hbody : ∀ (f : Addr) (cdv : Value) (A : Around) (outer : List Env) (s : Shared) (H : Hp) (vs : List V) (Q : VK) (E : XK), Room k (A.deeper (envOfC qual (defScope st) s.heap.objs.size f cdv)) → sp vs H Q E →
      ∃ t, PSs (cxOf CX0 P w K mg base N qual (defScope st) f cdv A outer s H E).nox (defBody st) t ∧ t { nx := fun _ H' => Q .non H', rt := Q } (L2.start N vs) H) : Di P w K mg base (k + 1) C ps dvs sp := by
  obtain ⟨f, fd, ds, dall, M, F, hv, b⟩ := T.ex
  refine ⟨f, fd, ds, M, hv, b, FnOk_x (F.ok (CX := CX0) S len fun cdv A outer s H vs Q E hr hsp => ?_)⟩
  obtain ⟨t, h, q⟩ := hbody f cdv A outer s H vs Q E hr hsp
  exact ⟨t, h.nox, q⟩
theorem tm_mk {f : Addr} {oc : Value} {od an : Option Addr} {osl : Array (Option Value)} {kV doc pm cdv ct : Value} (a : PySem.W.findIn K (.ref C) m = some (some (.ref f))) (i : PySem.W.isFn K (.ref f) = true)
    (l : K.lookup f = some ⟨oc, od, .func (PySem.W.fnOf m qual (defArgs st) (defBody st) (defScope st) .none kV doc pm an cdv ct), osl⟩) (c : PySem.W.codeIn K cdv qual = true) (kk : PySem.W.keepIn K (.ref f) = true)
    (hb : ∀ (kV doc pm : Value) (an : Option Addr) (cdv ct : Value) (us : List Value), us.length = ps.length → bindArgs (PySem.W.fnOf m qual (defArgs st) (defBody st) (defScope st) .none kV doc pm an cdv ct) ⟨us, []⟩ = pure (ps.zip us)) : Tm K C m qual st ps :=
  ⟨f, _, fun_mk l c kk, ⟨a, i, kk⟩, (fun_mk l c kk).binds hb⟩
theorem ti_mk {f : Addr} {oc : Value} {od an : Option Addr} {osl : Array (Option Value)} {kV doc pm cdv ct : Value} (a : PySem.W.findIn K (.ref C) "__init__" = some (some (.ref f))) (i : PySem.W.isFn K (.ref f) = true)
    (l : K.lookup f = some ⟨oc, od, .func (PySem.W.fnOf "__init__" qual (defArgs st) (defBody st) (defScope st) .none kV doc pm an cdv ct), osl⟩) (c : PySem.W.codeIn K cdv qual = true) (kk : PySem.W.keepIn K (.ref f) = true)
    (mk : PySem.W.makesIn K C = true) (kc : PySem.W.keepIn K (.ref C) = true)
    (hb : ∀ (kV doc pm : Value) (an : Option Addr) (cdv ct : Value) (us : List Value), us.length = ps.length → bindArgs (PySem.W.fnOf "__init__" qual (defArgs st) (defBody st) (defScope st) .none kV doc pm an cdv ct) ⟨us, []⟩ = pure (ps.zip us)) : Ti K C qual st ps [] :=
  ⟨f, _, [], [], ⟨mk, a, i, kc⟩, ⟨⟨oc, od, .none, kV, doc, pm, an, cdv, ct, osl, rfl, l, c, .inl ⟨rfl, rfl⟩, .inl rfl⟩, kk⟩, .nil, (fun_mk (st := st) l c kk).binds hb⟩
/-- .. with one default that is a number, left out -/
theorem ti_mk1 {f T : Addr} {d : Int} {tk : Tok} {o1 : Value} {o2 : Option Addr} {o4 : Array (Option Value)} {nn : Nat} {oc : Value} {od an : Option Addr} {osl : Array (Option Value)} {kV doc pm cdv ct : Value} {n : Nat} (a : PySem.W.findIn K (.ref C) "__init__" = some (some (.ref f))) (i : PySem.W.isFn K (.ref f) = true)
    (l : K.lookup f = some ⟨oc, od, .func (PySem.W.fnOf "__init__" qual (defArgs st) (defBody st) (defScope st) (.ref T) kV doc pm an cdv ct), osl⟩) (c : PySem.W.codeIn K cdv qual = true) (kk : PySem.W.keepIn K (.ref f) = true)
    (mk : PySem.W.makesIn K C = true) (kc : PySem.W.keepIn K (.ref C) = true) (lT : K.lookup T = some ⟨o1, o2, .seq #[.int d tk] nn, o4⟩) (hn : n + 1 = ps.length)
    (hb : ∀ (T : Addr) (kV doc pm : Value) (an : Option Addr) (cdv ct : Value) (us its : List Value), us.length = n → its.length = 1 →
      ∃ k, bindArgs (PySem.W.fnOf "__init__" qual (defArgs st) (defBody st) (defScope st) (.ref T) kV doc pm an cdv ct) ⟨us, []⟩ = seqItems? (.ref T) >>= k ∧ k (some its.toArray) = pure (ps.zip (us ++ its.drop 0))) : Ti K C qual st ps [.int d] := by
  have F : FunD K "__init__" qual (defArgs st) (defBody st) (defScope st) [.int d] [] f (PySem.W.fnOf "__init__" qual (defArgs st) (defBody st) (defScope st) (.ref T) kV doc pm an cdv ct) :=
    ⟨⟨oc, od, .ref T, kV, doc, pm, an, cdv, ct, osl, rfl, l, c, .inr ⟨(fun z => by cases z), T, _, [.int d tk], nn, rfl, lT, rfl, .cons ⟨tk, rfl⟩ .nil⟩, .inl rfl⟩, kk⟩
  obtain ⟨ds, hv, b⟩ := F.binds1 (ps := ps) n 0 (fun z => by cases z) hn hb
  exact ⟨f, _, ds, _, ⟨mk, a, i, kc⟩, F, hv, b⟩
section
variable {X : Cx} {C : Addr} {m x : Str} {ps : List Str} {sp : Sp} {k : Nat} {p pos apos : Pos} {e o : Expr} {es : List Expr} {t : TA} {ta : TE}
theorem pe_dm {pl : Sem Bool} (he : PE X o ta) (c : Cls X.K C) (D : Dm X.prog X.w X.K X.mg X.base k C m ps sp) (hr : Room k X.A) (ha : PA X (e :: es) t)
    (hst : starEach (e :: es) X.env = (false, eval e X.env) :: starEach es X.env := by rfl) (hpl : (backTo pos (starEach es X.env)).any (·.1) = false := by rfl)
    (ht : eval (.Call (.Attribute o m apos) (e :: es) [] pos) X.env = (do
      let ov ← eval o X.env
      standAt apos.atName
      let (f, first) ← holding [ov] (getMethod ov m pl)
      callWith pos f first (backTo pos (starEach (e :: es) X.env)) (backToKw pos (keywordEach [] X.env))) := by rfl) :
    PE X (.Call (.Attribute o m apos) (e :: es) [] pos) (tMeth C m sp [] E0 ta t) := by
  obtain ⟨f, fd, hm, b, G⟩ := D.ex
  exact pe_meth he c hm G hr b .nil passL ha hst hpl ht
theorem pe_dm0 {pl : Sem Bool} (he : PE X o ta) (c : Cls X.K C) (D : Dm X.prog X.w X.K X.mg X.base k C m ps sp) (hr : Room k X.A)
    (ht : eval (.Call (.Attribute o m apos) [] [] pos) X.env = (do
      let ov ← eval o X.env
      standAt apos.atName
      let (f, first) ← holding [ov] (getMethod ov m pl)
      callWith pos f first (backTo pos (starEach [] X.env)) (backToKw pos (keywordEach [] X.env))) := by rfl) :
    PE X (.Call (.Attribute o m apos) [] [] pos) (tMeth C m sp [] E0 ta tNil) := by
  obtain ⟨f, fd, hm, b, G⟩ := D.ex
  exact pe_meth0 he c hm G hr b .nil passL ht
theorem pe_di {dvs : List V} (D : Di X.prog X.w X.K X.mg X.base k C ps dvs sp) (hr : Room (k + 1) X.A) (hg : Gl X x) (hm : X.mg x = some (.ref C)) (ha : PA X (e :: es) t) (hdb : (x == ("__debug__" : Str)) = false := by decide)
    (he : starEach (e :: es) X.env = (false, eval e X.env) :: starEach es X.env := by rfl) (hpl : (backTo pos (starEach es X.env)).any (·.1) = false := by rfl) :
    PE X (.Call (.Name x p) (e :: es) [] pos) (tMake C sp dvs E0 t) := by
  obtain ⟨f, fd, ds, M, hv, b, G⟩ := D.ex
  exact pe_make M G hr hg hm b hv passL ha hdb he hpl
theorem pe_di0 {dvs : List V} (D : Di X.prog X.w X.K X.mg X.base k C ps dvs sp) (hr : Room (k + 1) X.A) (hg : Gl X x) (hm : X.mg x = some (.ref C)) (hdb : (x == ("__debug__" : Str)) = false := by decide) :
    PE X (.Call (.Name x p) [] [] pos) (tMake C sp dvs E0 tNil) := by
  obtain ⟨f, fd, ds, M, hv, b, G⟩ := D.ex
  exact pe_make0 M G hr hg hm b hv passL hdb
end
end
end Y

namespace Y
open PySem L2 PySem.Spec
open PyProof.Rows (envOfC)
/-! ## max(xs, default=d), xs a list of ints -/
theorem ints_hold {h : Heap} : ∀ {vs : List Value} {ns : List Int}, PyProof.Rows.IntsAre vs ns → ∃ as, ReadsAll h vs (ns.map PyData.int) as
  | _, _, .nil => ⟨[], .nil⟩
  | _, _, .cons _ _ r => by
    obtain ⟨as, e⟩ := ints_hold (h := h) r
    exact ⟨_, .cons (.int _ _) e⟩
def maxI (d : Int) : List Int → Int
  | [] => d
  | y :: ys => ys.foldl max y
theorem foldl_max (ys : List Int) : ∀ y : Int, ys.foldl (fun a y => if decide (a < y) = true then y else a) y = ys.foldl max y := by
  induction ys with
  | nil => intro y; rfl
  | cons x xs ih =>
    intro y
    rw [List.foldl_cons, List.foldl_cons, ih]
    congr 1
    by_cases h : y < x
    · rw [if_pos (by simpa using h)]; omega
    · rw [if_neg (by simpa using h)]; omega
theorem foldl_max_ge (ys : List Int) : ∀ y : Int, y ≤ ys.foldl max y ∧ ∀ z ∈ ys, z ≤ ys.foldl max y := by
  induction ys with
  | nil => intro y; exact ⟨Int.le_refl _, fun _ h => absurd h List.not_mem_nil⟩
  | cons x xs ih =>
    intro y
    rw [List.foldl_cons]
    obtain ⟨h1, h2⟩ := ih (max y x)
    refine ⟨by omega, fun z hz => ?_⟩
    rcases List.mem_cons.mp hz with e | e
    · subst e; omega
    · exact h2 z e
theorem foldl_max_mem (ys : List Int) : ∀ y : Int, ys.foldl max y ∈ y :: ys := by
  induction ys with
  | nil => intro y; exact List.mem_singleton.mpr rfl
  | cons x xs ih =>
    intro y
    rw [List.foldl_cons]
    rcases List.mem_cons.mp (ih (max y x)) with e | e
    · rw [e]
      by_cases h : y < x
      · rw [show max y x = x by omega]; exact List.mem_cons_of_mem _ List.mem_cons_self
      · rw [show max y x = y by omega]; exact List.mem_cons_self
    · exact List.mem_cons_of_mem _ (List.mem_cons_of_mem _ e)
theorem maxI_ge {d : Int} {ns : List Int} : ∀ z ∈ ns, z ≤ maxI d ns := by
  cases ns with
  | nil => exact fun _ h => absurd h List.not_mem_nil
  | cons y ys =>
    intro z hz
    obtain ⟨h1, h2⟩ := foldl_max_ge ys y
    rcases List.mem_cons.mp hz with e | e
    · rw [e]; exact h1
    · exact h2 z e
theorem maxI_mem {d : Int} {ns : List Int} (h : ns ≠ []) : maxI d ns ∈ ns := by
  cases ns with
  | nil => exact absurd rfl h
  | cons y ys => exact foldl_max_mem ys y
def rMaxDf (K : PySem.W.Frag) : List V → List V → Hp → VK → Prop := fun vs zs H Q => ∃ (a : Addr) (ns : List Int) (d : Int), vs = [V.ref a] ∧ zs = [V.int d] ∧ SqL K H a (ns.map V.int) ∧ Q (.int (maxI d ns)) H
theorem cr_maxDf {X : Cx} (hc : X.calm = true) (hu : X.A.units + 64 < cLine) : CallRK X (.builtin "max") [Str.ofString "default"] (rMaxDf X.K) := by
  intro pins s σ H vs zs us ws Q I r rz h
  obtain ⟨a, ns, d, rfl, rfl, hs, q⟩ := h
  obtain rfl := Vals.ref1 r
  obtain ⟨w1, rfl, ⟨t, rfl⟩⟩ := vals1 rz
  obtain ⟨its, rv, hl, _⟩ := I.list hs
  have hi := rv.ints
  obtain ⟨as, ra⟩ := ints_hold (h := s.heap) hi
  refine PySem.W.max_list_datum_default (α := Int) (xs := ns) (I.ok.hd hc) hl.isList ⟨as, ra⟩ (by show X.A.units + 1 + 0 < cLine; omega) (fun e h' tk hk => ?_) (fun y ys i v h' tk e _ hv hk => ?_)
  · subst e
    exact ⟨.int d, H, I.kept hk, ⟨t, rfl⟩, q⟩
  · subst e
    obtain ⟨bs, rd⟩ := hv
    obtain ⟨t', rfl⟩ : ∃ t', v = .int (PySem.W.maxOf y ys) t' := by
      cases rd
      exact ⟨_, rfl⟩
    refine ⟨.int (maxI d (y :: ys)), H, I.kept hk, ⟨t', ?_⟩, q⟩
    show Value.int _ _ = Value.int _ _
    congr 1
    exact foldl_max ys y
theorem ev_maxDf {Γ : Gm} {Ω : Om} {K : PySem.W.Frag} {ta tk : TA} {α : Type} {xs : List α} {g : α → Int} {d : Int} (ha : EvA Γ Ω ta [Ls K (xs.map fun x => I (g x))]) (hk : EvA Γ Ω tk [I d]) : Ev Γ Ω (tCKw (rMaxDf K) ta tk) (I (maxI d (xs.map g))) := fun Z F H σ c Q q => ha Z F H σ c _ fun vs F1 H1 c1 s1 r1 => hk Z F1 H1 σ c1 _ fun zs F2 H2 c2 s2 r2 => by
  obtain ⟨v, rfl, a, ys, e, hs, hl⟩ := r1.one
  obtain ⟨z, rfl, e2⟩ := r2.one
  cases e
  cases e2
  have w := all_map hl
  subst w
  exact ⟨a, xs.map g, d, rfl, rfl, c2.sub.seq (s2.fe.seq hs), q _ F2 H2 c2 (s1.trans s2) rfl⟩
end Y

namespace Y
open PySem L2 PySem.Spec
open PyProof.Rows (envOfC)
/-! ## what is handed out new and may be changed -/
/-- an expression whose value is a new thing, owned: A -/
def EvNw (Γ : Gm) (Ω : Om) (te : TE) (A : OA) : Prop := ∀ (Z : Bs) (F H : Hp) (σ : L2.St), Ctx Z F H σ Γ Ω → ∀ Q : VK, (∀ p F' H', Ctx Z F' H' σ Γ ((p, A) :: Ω) → Ext [] F H F' H' → H p = none → Q (.ref p) H') → te σ H Q
/-- a contract: it changes nothing and hands out a new thing, as post tells of it -/
def CtO {α β : Type} (args : α → List As) (pre : α → Prop) (post : α → β → Prop) (A : β → OA) : Sp := fun vs H Q _ =>
  ∃ a F, Same F H ∧ All F (args a) vs ∧ pre a ∧ ∀ b p F' H', post a b → Ext [] F H F' H' → Same F' H' → Own F' H' [(p, A b)] → H p = none → Q (.ref p) H'
theorem CtO.len {α β : Type} {args : α → List As} {pre : α → Prop} {post : α → β → Prop} {A : β → OA} {n : Nat} (h : ∀ a, (args a).length = n) : ∀ vs H Q E, CtO args pre post A vs H Q E → vs.length = n := by
  rintro vs H Q E ⟨a, F, _, ha, _⟩
  rw [ha.length, h]
section
variable {Z : Bs} {F H F' H' : Hp} {σ σ' : L2.St} {Γ Γ' : Gm} {Ω Ω' : Om} {K : PySem.W.Frag} {te ta tb tl : TE} {tt : TT} {R Rx Ry : As} {Rs Ss : List As} {n : L2.St → Hp → Prop} {r : VK} {bk ct : L2.St → Hp → Prop}
theorem Ctx.add {p : Addr} {A : OA} (c : Ctx Z F H σ Γ Ω) (e : Ext [] F H F' H') (s : Same F' H') (o : Own F' H' [(p, A)]) (hp : H p = none) : Ctx Z F' H' σ Γ ((p, A) :: Ω) := by
  have c2 := c.step e s
  refine ⟨c2.sat, s, fun x hx => ?_, ?_, fun x hx => ?_, c2.ext, c2.pin⟩
  · rcases List.mem_cons.mp hx with z | hx
    · subst z; exact o _ List.mem_cons_self
    · exact c2.own x hx
  · rw [List.map_cons, List.nodup_cons]
    refine ⟨fun hx => ?_, c.nd⟩
    obtain ⟨x, hx, z⟩ := List.mem_map.mp hx
    obtain ⟨_, o', h2, _⟩ := c.own x hx
    have z : x.1 = p := z
    rw [z, hp] at h2
    cases h2
  · rcases List.mem_cons.mp hx with z | hx
    · subst z; exact .inr (.inl (c.ext.dm _ hp))
    · exact c.loc x hx
/-- f(e, ..), f hands out something new -/
theorem eo_call {α β : Type} {args : α → List As} {pre : α → Prop} {post : α → β → Prop} {A : β → OA} {E : XK} {ta : TA} (a : α) (h : EvA Γ Ω ta (args a)) (hp : pre a) (Q : VK) (c : Ctx Z F H σ Γ Ω) (k : ∀ b p F' H', post a b → Ctx Z F' H' σ Γ ((p, A b) :: Ω) → Same F F' → Q (.ref p) H') : tCall (CtO args pre post A) [] E ta σ H Q :=
  h Z F H σ c _ fun vs F1 H1 c1 s1 rs => ⟨a, F1, c1.sub, by rw [List.append_nil]; exact rs, hp, fun b p F2 H2 hb e2 s2 o hn => k b p F2 H2 hb (c1.add e2 s2 o hn) (s1.trans e2).fe⟩
theorem st_callO {α β : Type} {args : α → List As} {pre : α → Prop} {post : α → β → Prop} {A : β → OA} {E : XK} {ta : TA} {i : Nat} (a : α) (c : Ctx Z F H σ Γ Ω) (h : EvA Γ Ω ta (args a)) (hp : pre a) (k : ∀ b p F' H' σ', post a b → Ctx Z F' H' σ' (Γ.set i (some (Rf p))) ((p, A b) :: Ω) → Same F F' → n σ' H') : tAsg (tCall (CtO args pre post A) [] E ta) (gName i) ⟨n, r, bk, ct⟩ σ H :=
  eo_call a h hp _ c fun b p F' H' hb c2 s => k b p F' H' _ hb (c2.set i rfl) s
/-- x = something new -/
theorem st_setO {A : OA} {i : Nat} (c : Ctx Z F H σ Γ Ω) (e : EvNw Γ Ω te A) (k : ∀ p F' H' σ', Ctx Z F' H' σ' (Γ.set i (some (Rf p))) ((p, A) :: Ω) → Same F F' → n σ' H') : tAsg te (gName i) ⟨n, r, bk, ct⟩ σ H :=
  e Z F H σ c _ fun p F' H' c2 s _ => k p F' H' _ (c2.set i rfl) s.fe
/-- return something new -/
theorem st_retO {A : OA} (c : Ctx Z F H σ Γ Ω) (e : EvNw Γ Ω te A) (k : ∀ p F' H', Ctx Z F' H' σ Γ ((p, A) :: Ω) → Same F F' → Z.H p = none → r (.ref p) H') : tRet te ⟨n, r, bk, ct⟩ σ H :=
  e Z F H σ c _ fun p F' H' c2 s h => k p F' H' c2 s.fe (c.ext.dm _ h)
/-- return x, x owned -/
theorem st_retOV {A : OA} {p : Addr} {j : Nat} (c : Ctx Z F H σ Γ Ω) (h : Ev Γ Ω te (Rf p)) (hm : Ω[j]? = some (p, A)) (hz : Z.ft = []) (k : ∀ F' H', Ctx Z F' H' σ Γ Ω → Own F' H' [(p, A)] → Z.H p = none → r (.ref p) H') (hro : Z.ro = [] := by rfl) : tRet te ⟨n, r, bk, ct⟩ σ H :=
  h Z F H σ c _ fun v F1 H1 c1 s1 rv => by
    cases rv
    refine k F1 H1 c1 (fun x hx => ?_) ?_
    · rw [List.mem_singleton.mp hx]; exact c1.own _ (List.mem_of_getElem? hm)
    · rcases c1.loc _ (List.mem_of_getElem? hm) with l | l | l
      · rw [hz] at l; exact absurd l List.not_mem_nil
      · exact l
      · rw [hro] at l; exact absurd l List.not_mem_nil
theorem own_head {p : Addr} {A : OA} (c : Ctx Z F H σ Γ ((p, A) :: Ω)) : Own F H [(p, A)] := fun x hx => by
  rw [List.mem_singleton.mp hx]; exact c.own _ List.mem_cons_self
/-- a comprehension's list, owned -/
theorem eo_lc {α : Type} {wi : TI} {xs : List α} {f : α → As} {g : TG} {vs : List Nat} (G' : α → Gm) (cd : α → Bool) (res : α → As) {ws : List Nat} (e : Src Γ Ω wi xs f) (hg : ∀ x, Gt (wipeG Γ vs) (f x) g (G' x) ws) (hw : ∀ i ∈ ws, i ∈ vs)
    (ht : ∀ x ∈ xs, EvT (G' x) Ω tt (cd x)) (he : ∀ x ∈ xs, cd x = true → Ev (G' x) Ω te (res x)) (hlen : xs.length ≤ 100000) : EvNw Γ Ω (tLc wi g tt te vs) (oL ((xs.filter cd).map res)) := fun Z F H σ c Q q =>
  e Z F H σ c _ fun J F1 H1 c1 s1 src => by
    intro D hD
    have cw : Ctx Z F1 H1 (L2.wipe σ vs) (wipeG Γ vs) Ω := c1.slots (c1.sat.wipe vs)
    let Pv : Nat → Hp → Prop := (fun k H' => ∃ F' acc, H' D = some (.lst acc) ∧ acc.length ≤ k ∧ All F' (((xs.take k).filter cd).map res) acc ∧ F' D = none ∧ ∃ G, Ctx Z F' G (L2.wipe σ vs) (wipeG Γ vs) Ω ∧ Ext [] F1 H1 F' G ∧ G D = none ∧ H' = upd G D (.lst acc))
    refine ⟨fun i m H => m = xs.length - i ∧ i ≤ xs.length ∧ Pv i H, ⟨_, rfl, Nat.zero_le _, F1, [], upd_same, Nat.zero_le _, trivial, c1.sub.free hD, H1, cw, Ext.refl _ _ _, hD, rfl⟩, ?_⟩
    rintro k m Hc ⟨rfl, hkn, pk⟩
    rcases Nat.lt_or_eq_of_le hkn with hk | hk
    · obtain ⟨F', acc, hA, hlA, hall, hFD, G, cG, eG, hGD, rfl⟩ := pk
      have hx : xs[k]? = some xs[k] := List.getElem?_eq_getElem hk
      have hmem : xs[k] ∈ xs := List.getElem_mem hk
      have cA0 : Ctx Z F' (upd G D (.lst acc)) (L2.wipe σ vs) (wipeG Γ vs) Ω := (cG.grow (A := ⟨fun _ _ => True, fun _ h => h⟩) (p := D) (o := .lst acc) hGD trivial).tail
      obtain ⟨go, yl⟩ := (src Z F' _ _ _ _ cA0 eG.fe).2 k xs[k] hx
      refine .inr ⟨go, Pv (k + 1), fun H' p' => ⟨xs.length - (k + 1), by omega, rfl, hk, p'⟩, fun y H' hy => ?_⟩
      obtain ⟨F0, e0, s0, ry⟩ := yl y H' hy
      -- the list that is being made, as something owned
      have cA : Ctx Z F0 H' (L2.wipe σ vs) (wipeG Γ vs) Ω := cA0.step e0 s0
      have pres : ∀ {F2 H2 : Hp}, Ext [] F' (upd G D (.lst acc)) F2 H2 → H2 D = some (.lst acc) := fun e2 => e2.fr D _ upd_same List.not_mem_nil
      have back : ∀ {F2 H2 : Hp} {σ2 : L2.St} {Γ2 : Gm}, Ctx Z F2 H2 σ2 Γ2 Ω → Ext [] F' (upd G D (.lst acc)) F2 H2 → F2 D = none ∧ ∃ G2, Ctx Z F2 G2 (L2.wipe σ vs) (wipeG Γ vs) Ω ∧ Ext [] F1 H1 F2 G2 ∧ G2 D = none ∧ ∀ o, upd H2 D o = upd G2 D o := fun {F2 H2 σ2 Γ2} c2 e2 => by
        have f2 : F2 D = none := e2.nw D (by rw [upd_same]; exact fun z => by cases z) hFD
        let G2 : Hp := fun b => if b = D then none else H2 b
        have g2 : ∀ b, b ≠ D → G2 b = H2 b := fun b hb => if_neg hb
        have gD : G2 D = none := if_pos rfl
        have hext : Ext [] F' G F2 G2 := by
          refine ⟨e2.fe, fun b o h hn => ?_, fun b h => ?_, fun b h1 h2 => ?_⟩
          · have hb : b ≠ D := ne_of_none h hGD
            rw [g2 b hb]
            exact e2.fr b o (by rw [upd_ne hb]; exact h) hn
          · by_cases hb : b = D
            · rw [hb]; exact hGD
            · rw [g2 b hb] at h
              have := e2.dm b h
              rw [upd_ne hb] at this
              exact this
          · have hb : b ≠ D := fun z => h1 (by rw [z]; exact hGD)
            exact e2.nw b (by rw [upd_ne hb]; exact h1) h2
        have hsub : Same F2 G2 := fun b o h => by
          have hb : b ≠ D := ne_of_none h f2
          rw [g2 b hb]
          exact c2.sub b o h
        refine ⟨f2, G2, cG.step hext hsub, eG.trans hext, gD, fun o => ?_⟩
        funext b
        unfold upd
        by_cases hb : b = D
        · rw [if_pos hb, if_pos hb]
        · rw [if_neg hb, if_neg hb, g2 b hb]
      refine hg xs[k] Z F0 _ (L2.wipe σ vs) y Ω cA ry _ fun σ2 c2 hσ => ⟨(hσ vs hw).trans ?_, ?_⟩
      · exact wipe_wipe σ vs
      refine ht xs[k] hmem Z F0 _ σ2 c2 _ fun F3 H3 c3 e3' => ?_
      have e3 := e0.trans e3'
      cases hc : cd xs[k] with
      | false =>
        refine iteF ?_
        obtain ⟨f3, G3, cG3, eG3, gD3, up3⟩ := back c3 e3
        refine ⟨F3, acc, pres e3, by omega, ?_, f3, G3, cG3, eG3, gD3, ?_⟩
        · rw [filter_take hx, hc, if_neg Bool.false_ne_true, List.append_nil]
          exact hall.mono e3.fe
        · have := up3 (.lst acc)
          rw [← this]
          funext b
          unfold upd
          by_cases hb : b = D
          · rw [if_pos hb, hb]; exact pres e3
          · rw [if_neg hb]
      | true =>
        refine iteT ?_
        refine he xs[k] hmem hc Z F3 H3 σ2 c3 _ fun w F4 H4 c4 e4 rw' => ?_
        have e34 := e3.trans e4
        obtain ⟨f4, G4, cG4, eG4, gD4, up4⟩ := back c4 e34
        refine ⟨acc, pres e34, Nat.lt_of_le_of_lt (Nat.le_trans hlA (Nat.le_of_lt (Nat.lt_of_lt_of_le hk hlen))) (by decide), F4, acc ++ [w], upd_same, by rw [List.length_append]; exact Nat.succ_le_succ hlA, ?_, f4, G4, cG4, eG4, gD4, up4 _⟩
        rw [filter_take hx, hc, if_pos rfl, List.map_append]
        exact (hall.mono e34.fe).app ⟨rw', trivial⟩
    · subst hk
      obtain ⟨F', acc, hA, _, hall, hFD, G, cG, eG, hGD, rfl⟩ := pk
      have cA0 : Ctx Z F' (upd G D (.lst acc)) (L2.wipe σ vs) (wipeG Γ vs) Ω := (cG.grow (A := ⟨fun _ _ => True, fun _ h => h⟩) (p := D) (o := .lst acc) hGD trivial).tail
      refine .inl ⟨(src Z F' _ _ _ _ cA0 eG.fe).1, ?_⟩
      rw [List.take_length] at hall
      exact q D F' _ (((c1.step eG cG.sub).grow (A := oL ((xs.filter cd).map res)) hGD ⟨acc, rfl, hall⟩)) (s1.trans (eG.trans (Ext.newH hGD))) (s1.dm _ (eG.dm _ hGD)) 
/-- list(x), owned -/
theorem eo_listLk {ta : TE} (ha : Lk K Γ Ω ta Rs) : EvNw Γ Ω (tCB (fun xs H Q => ∃ p ys, xs = [.ref p] ∧ (SqL K H p ys ∨ SqT K H p ys) ∧ ∀ l, H l = none → Q (.ref l) (upd H l (.lst ys))) (tCons ta tNil)) (oL Rs) := fun Z F H σ c Q q =>
  ha Z F H σ c _ fun a F1 H1 c1 s1 hs => by
    obtain ⟨xs, hs1, hl⟩ := hs F1 H1 c1 (Same.refl _)
    exact ⟨a, xs, rfl, .inl hs1, fun p hp => q p F1 _ (c1.grow (A := oL Rs) hp ⟨xs, rfl, hl⟩) (s1.trans (Ext.newH hp)) (s1.dm _ hp)⟩
/-- something new, frozen at once -/
theorem ev_ofNw (e : EvNw Γ Ω te (oL Rs)) : Ev Γ Ω te (Ls K Rs) := fun Z F H σ c Q q => e Z F H σ c _ fun p F' H' c2 s hn => by
  obtain ⟨h1, o, h2, xs, eo, hx⟩ := c2.own _ List.mem_cons_self
  subst eo
  dsimp only at h1 h2
  have s2 : Same F' (upd F' p (.lst xs)) := fun a u q => by rw [upd_ne (ne_of_none q h1)]; exact q
  have nd := c2.nd
  rw [List.map_cons, List.nodup_cons] at nd
  have other : ∀ x ∈ Ω, x.1 ≠ p := fun x hx z => nd.1 (List.mem_map.mpr ⟨x, hx, z⟩)
  have sub2 : Same (upd F' p (.lst xs)) H' := fun a u q => by
    by_cases z : a = p
    · rw [z] at q ⊢; rw [upd_same] at q; rw [← q]; exact h2
    · rw [upd_ne z] at q; exact c2.sub a u q
  have c3 : Ctx Z (upd F' p (.lst xs)) H' σ Γ Ω := by
    refine ⟨c2.sat.mono s2, sub2, fun x hx => ?_, nd.2, fun x hx => c2.loc x (List.mem_cons_of_mem _ hx), ⟨c2.ext.fe.trans s2, c2.ext.fr, c2.ext.dm, fun a g1 g2 => ?_⟩, c2.pin.trans s2⟩
    · obtain ⟨k1, o', k2, k3⟩ := c2.own x (List.mem_cons_of_mem _ hx)
      exact ⟨by rw [upd_ne (other x hx)]; exact k1, o', k2, x.2.mono s2 k3⟩
    · have z : a ≠ p := fun z => g1 (by rw [z]; exact c.ext.dm _ hn)
      rw [upd_ne z]
      exact c2.ext.nw a g1 g2
  refine q _ _ H' c3 ⟨s.fe.trans s2, s.fr, s.dm, fun a g1 g2 => ?_⟩ ⟨p, xs, rfl, SqL.of upd_same, hx.mono s2⟩
  have z : a ≠ p := fun z => g1 (by rw [z]; exact hn)
  rw [upd_ne z]
  exact s.nw a g1 g2
/-- f(e, ..), f hands out something new, one and the same kind: frozen at once -/
theorem nw_call {α β : Type} {args : α → List As} {pre : α → Prop} {post : α → β → Prop} {A : β → OA} {E : XK} {ta : TA} {B0 : OA} (a : α) (h : EvA Γ Ω ta (args a)) (hp : pre a) (hb : ∀ b, post a b → A b = B0) : EvNw Γ Ω (tCall (CtO args pre post A) [] E ta) B0 := fun Z F H σ c Q q =>
  h Z F H σ c _ fun vs F1 H1 c1 s1 rs => ⟨a, F1, c1.sub, by rw [List.append_nil]; exact rs, hp, fun b p F2 H2 hpb e2 s2 o hn => by
    have o' : Own F2 H2 [(p, B0)] := by rw [← hb b hpb]; exact o
    exact q p F2 H2 (c1.add e2 s2 o' hn) (s1.trans e2) (s1.dm _ hn)⟩
/-- f(e, ..), f reads things that are owned -/
theorem ev_callR {α : Type} {args : α → List As} {Oi : α → Om} {pre : α → Prop} {res : α → As} {E : XK} {t : TA} (a : α) (h : EvA Γ Ω t (args a)) (hs : (Oi a).Sublist Ω) (hp : pre a) : Ev Γ Ω (tCall (CtR args Oi pre res) [] E t) (res a) := fun Z F H σ c Q q =>
  h Z F H σ c _ fun vs F1 H1 c1 s1 rs => ⟨a, F1, c1.sub, by rw [List.append_nil]; exact rs, c1.own.sub fun x hx => hs.subset hx, nodup_sub c1.nd hs, hp, fun v F2 H2 e2 s2 r => q v F2 H2 (c1.step e2 s2) (s1.trans e2) r⟩
theorem all_mapB {F : Hp} {α : Type} {g : α → Bool} : ∀ {xs : List α} {ys : List V}, All F (xs.map fun x => B (g x)) ys → ys = (xs.map g).map V.bl
  | [], [], _ => rfl
  | x :: xs, y :: ys, h => by
    have e : y = V.bl (g x) := h.1
    rw [e, all_mapB h.2]
    rfl
  | [], _ :: _, h => h.elim
  | _ :: _, [], h => h.elim
theorem rc_any {α : Type} {xs : List α} {g : α → Bool} : RC (rAny K) [Ls K (xs.map fun x => B (g x))] (B (xs.any g)) := fun F H vs s h Q q => by
  obtain ⟨v, rfl, a, ys, e, hs, hl⟩ := h.one
  cases e
  have z := all_mapB hl
  subst z
  refine ⟨a, xs.map g, rfl, s.seq hs, ?_⟩
  rw [List.any_map]
  exact q _ F H (Ext.refl _ _ _) s rfl
theorem rc_all {α : Type} {xs : List α} {g : α → Bool} : RC (rAll K) [Ls K (xs.map fun x => B (g x))] (B (xs.all g)) := fun F H vs s h Q q => by
  obtain ⟨v, rfl, a, ys, e, hs, hl⟩ := h.one
  cases e
  have z := all_mapB hl
  subst z
  refine ⟨a, xs.map g, rfl, s.seq hs, ?_⟩
  rw [List.all_map]
  exact q _ F H (Ext.refl _ _ _) s rfl
/-- an owned list (variable i) read as a frozen one by an expression whose value is a number, a truth value, a text or None -/
theorem ev_peek {p : Addr} {i j : Nat} {w : V} (hm : Ω[j]? = some (p, oL Rs)) (hi : Γ[i]? = some (some (Rf p))) (h : Ev (Γ.set i (some (Ls K Rs))) (Ω.eraseIdx j) te (Cst w)) : Ev Γ Ω te (Cst w) := fun Z F H σ c Q q => by
  obtain ⟨h1, o, h2, xs, eo, hx⟩ := c.own _ (List.mem_of_getElem? hm)
  subst eo
  dsimp only at h1 h2
  have s : Same F (upd F p (.lst xs)) := fun a u z => by rw [upd_ne (ne_of_none z h1)]; exact z
  have hsub : Same (upd F p (.lst xs)) H := fun a u z => by
    by_cases e : a = p
    · rw [e] at z ⊢; rw [upd_same] at z; rw [← z]; exact h2
    · rw [upd_ne e] at z; exact c.sub a u z
  have other : ∀ x ∈ Ω.eraseIdx j, x ∈ Ω ∧ x.1 ≠ p := fun x hx => by
    have hx' := List.mem_of_mem_eraseIdx hx
    refine ⟨hx', fun z => ?_⟩
    obtain ⟨k, hk⟩ := List.getElem?_of_mem hx
    rw [List.getElem?_eraseIdx] at hk
    split at hk
    · have a1 : (Ω.map (·.1))[k]? = some p := by rw [List.getElem?_map, hk, ← z]; rfl
      have a2 : (Ω.map (·.1))[j]? = some p := by rw [List.getElem?_map, hm]; rfl
      have := nd_ix c.nd a1 a2
      omega
    · have a1 : (Ω.map (·.1))[k + 1]? = some p := by rw [List.getElem?_map, hk, ← z]; rfl
      have a2 : (Ω.map (·.1))[j]? = some p := by rw [List.getElem?_map, hm]; rfl
      have := nd_ix c.nd a1 a2
      omega
  have c1 : Ctx ⟨upd F p (.lst xs), H, [], upd F p (.lst xs), (Ω.eraseIdx j).map (·.1)⟩ (upd F p (.lst xs)) H σ (Γ.set i (some (Ls K Rs))) (Ω.eraseIdx j) := by
    refine ⟨?_, hsub, fun x hx => ?_, ((List.eraseIdx_sublist Ω j).map _).nodup c.nd, fun x hx => .inr (.inr (List.mem_map.mpr ⟨x, hx, rfl⟩)), Ext.refl _ _ _, Same.refl _⟩
    · obtain ⟨v, e1, e2⟩ := (c.sat.mono s).get hi
      have e2 : v = .ref p := e2
      subst e2
      have z := (c.sat.mono s).set (R := Ls K Rs) (v := .ref p) ⟨p, xs, rfl, SqL.of upd_same, hx.mono s⟩ i
      have e3 : σ.set i (some (.ref p)) = σ := by
        apply List.ext_getElem?
        intro k
        rw [List.getElem?_set]
        split
        · rename_i hk
          subst hk
          split
          · exact e1.symm
          · rename_i hk
            rw [List.getElem?_eq_none (by omega)]
        · rfl
      rw [e3] at z
      exact z
    · obtain ⟨hx1, hx2⟩ := other x hx
      obtain ⟨k1, o', k2, k3⟩ := c.own x hx1
      exact ⟨by rw [upd_ne hx2]; exact k1, o', k2, x.2.mono s k3⟩
  refine h _ _ _ σ c1 Q fun v F3 H3 c3 e3 rv => ?_
  have e : Ext [] F H (fun b => if b = p then none else F3 b) H3 := by
    refine ⟨fun a u z => ?_, e3.fr, e3.dm, fun a g1 g2 => ?_⟩
    · show (if a = p then none else F3 a) = some u
      rw [if_neg (ne_of_none z h1)]
      exact e3.fe a u (s a u z)
    · show (if a = p then none else F3 a) = none
      by_cases z : a = p
      · rw [if_pos z]
      · rw [if_neg z]
        exact e3.nw a g1 (by rw [upd_ne z]; exact g2)
  have s' : Same (fun b => if b = p then none else F3 b) H3 := fun a u z => by
    by_cases w : a = p
    · have z : (if a = p then none else F3 a) = some u := z
      rw [if_pos w] at z; cases z
    · have z : (if a = p then none else F3 a) = some u := z
      rw [if_neg w] at z; exact c3.sub a u z
  exact q v _ H3 (c.step e s') e rv
end
end Y

namespace Y
open PySem L2 PySem.Spec
open PyProof.Rows (envOfC)
/-! ## errors: with fields, out of methods, named in a suite -/
/-- an error's own dict -/
def oXd (fs : List (Str × As)) : OA := ⟨fun F o => ∃ vs, o = .xd vs ∧ AllF F fs vs, fun s h => by
  obtain ⟨vs, e, q⟩ := h; exact ⟨vs, e, q.mono s⟩⟩
/-- may raise C with fields -/
def CtX {α : Type} (args : α → List As) (pre good : α → Prop) (res : α → As) (C : Addr) (xf : α → List (Str × As)) : Sp := fun vs H Q E =>
  ∃ a F, Same F H ∧ All F (args a) vs ∧ pre a ∧ (good a → ∀ v F' H', Ext [] F H F' H' → Same F' H' → (res a).p F' v → Q v H') ∧
    (¬ good a → ∀ d F' H', Ext [] F H F' H' → Same F' H' → Own F' H' [(d, oXd (xf a))] → H d = none → E (.ref C) (some d) H')
/-- a method that changes, or raises C with fields and leaves all as it was -/
def CtMX {α : Type} (args : α → List As) (Oi : α → Om) (pre good : α → Prop) (res : α → As) (Oo : α → Om) (C : Addr) (xf : α → List (Str × As)) : Sp := fun vs H Q E =>
  ∃ a F, Same F H ∧ All F (args a) vs ∧ Own F H (Oi a) ∧ ((Oi a).map (·.1)).Nodup ∧ pre a ∧
    (good a → ∀ v F' H', Ext ((Oi a).map (·.1)) F H F' H' → Same F' H' → (res a).p F' v → Own F' H' (Oo a) → Q v H') ∧
    (¬ good a → ∀ d F' H', Ext ((Oi a).map (·.1)) F H F' H' → Same F' H' → Own F' H' ((d, oXd (xf a)) :: Oi a) → H d = none → E (.ref C) (some d) H')
/-- .. without fields -/
def CtME {α : Type} (args : α → List As) (Oi : α → Om) (pre good : α → Prop) (res : α → As) (Oo : α → Om) (C : Addr) : Sp := fun vs H Q E =>
  ∃ a F, Same F H ∧ All F (args a) vs ∧ Own F H (Oi a) ∧ ((Oi a).map (·.1)).Nodup ∧ pre a ∧
    (good a → ∀ v F' H', Ext ((Oi a).map (·.1)) F H F' H' → Same F' H' → (res a).p F' v → Own F' H' (Oo a) → Q v H') ∧
    (¬ good a → ∀ F' H', Ext ((Oi a).map (·.1)) F H F' H' → Same F' H' → Own F' H' (Oi a) → E (.ref C) none H')
section
variable {α : Type} {args : α → List As} {Oi Oo : α → Om} {pre good : α → Prop} {res : α → As} {C : Addr} {xf : α → List (Str × As)} {n : Nat}
theorem CtX.len (h : ∀ a, (args a).length = n) : ∀ vs H Q E, CtX args pre good res C xf vs H Q E → vs.length = n := by
  rintro vs H Q E ⟨a, F, _, ha, _⟩
  rw [ha.length, h]
theorem CtMX.len (h : ∀ a, (args a).length = n) : ∀ vs H Q E, CtMX args Oi pre good res Oo C xf vs H Q E → vs.length = n := by
  rintro vs H Q E ⟨a, F, _, ha, _⟩
  rw [ha.length, h]
theorem CtME.len (h : ∀ a, (args a).length = n) : ∀ vs H Q E, CtME args Oi pre good res Oo C vs H Q E → vs.length = n := by
  rintro vs H Q E ⟨a, F, _, ha, _⟩
  rw [ha.length, h]
end
/-! ### calls in a try (or in a def that lets the error out) -/
def tMethX (C : Addr) (m : Str) (sp : Sp) (E : L2.St → XK) (ta : TE) (t : TA) : TE := fun σ H Q => ta σ H fun x H1 => ∃ a dx fs, x = .ref a ∧ H1 a = some (.ins C dx fs) ∧ fs.lookup m = none ∧
  t σ H1 fun vs H2 => sp (x :: vs) H2 Q (E σ)
def tMakeX (C : Addr) (sp : Sp) (dvs : List V) (E : L2.St → XK) (t : TA) : TE := fun σ H Q => t σ H fun vs H1 => ∀ x dx, H1 x = none → H1 dx = none → dx ≠ x →
  sp (.ref x :: (vs ++ dvs)) (upd (upd H1 dx (.own x)) x (.ins C dx [])) (fun v H2 => v = .non ∧ Q (.ref x) H2) (E σ)
section
variable {X : Cx} {C : Addr} {m x : Str} {ps : List Str} {sp : Sp} {k : Nat} {p pos apos : Pos} {e o : Expr} {es : List Expr} {t : TA} {ta : TE} {W : WX}
theorem pe_dmS {pl : Sem Bool} (tk : Takes X W) (he : PE X o ta) (c : Cls X.K C) (D : Dm X.prog X.w X.K X.mg X.base k C m ps sp) (hr : Room k X.A) (ha : PA X (e :: es) t)
    (hst : starEach (e :: es) X.env = (false, eval e X.env) :: starEach es X.env := by rfl) (hpl : (backTo pos (starEach es X.env)).any (·.1) = false := by rfl)
    (ht : eval (.Call (.Attribute o m apos) (e :: es) [] pos) X.env = (do
      let ov ← eval o X.env
      standAt apos.atName
      let (f, first) ← holding [ov] (getMethod ov m pl)
      callWith pos f first (backTo pos (starEach (e :: es) X.env)) (backToKw pos (keywordEach [] X.env))) := by rfl) :
    PE X (.Call (.Attribute o m apos) (e :: es) [] pos) (tMethX C m sp (WE W) ta t) := by
  obtain ⟨f, fd, hm, b, G⟩ := D.ex
  refine ⟨fun pins s σ H Q I h => ?_⟩
  refine PySem.W.methodCall_KW (pl := pl) (thn (he.run pins s σ H _ I h) fun u s1 ⟨x, H1, I1, rx, a, dx, fs, ex, ea, l, q⟩ => ?_) ht
  subst ex
  obtain rfl : u = Value.ref a := rx
  refine getmeth_ok I1 ea c hm l ?_
  refine PySem.W.callWith_K (first := [.ref a]) (h₀ := X.base) I.ok.mod.kin hm.kp (thn (ha.run pos pins s1 σ H1 _ I1 q) fun us s2 ⟨vs, H2, I2, r, q2⟩ => ⟨I2.kIn, ?_⟩) hst hpl
  exact run_fnS (us := .ref a :: us) (vs := .ref a :: vs) G hr b (L2N.passAt tk σ) I2 (.cons rfl r) q2
theorem run_makeX {f : Addr} {fd : FuncData} {ds : List Value} {dvs : List V} {pins : List (Addr × Obj)} {σ : L2.St} {H : Hp} {s : Shared} {Q : VK} {us : List Value} {vs : List V} {E : XK} (M : Mk X.K C f) (F : FnOk X.prog X.w X.K X.mg X.base (L2N.CX X.prog X.w) k f fd ps sp) (hr : Room (k + 1) X.A) (hb : Binds X.K fd ps ds) (hd : Vals dvs ds)
    (hx : PassesAt (L2N.CX X.prog X.w) X σ E) (I : L2.Inv X pins σ H s) (r : Vals vs us)
    (h : ∀ x dx, H x = none → H dx = none → dx ≠ x → sp (.ref x :: (vs ++ dvs)) (upd (upd H dx (.own x)) x (.ins C dx [])) (fun v H2 => v = .non ∧ Q (.ref x) H2) E) :
    wpAny (model X.prog X.w) X.A (call (.ref C) us) (EP X pins σ Q) X.xe s := by
  have hq := h (s.heap.objs.size + 1) s.heap.objs.size (I.hok.fresh (Nat.le_succ _)) (I.hok.fresh (Nat.le_refl _)) (Nat.ne_of_lt (Nat.lt_succ_self _))
  have I2 := L2.Inv.made (C := C) I
  have r2 : Vals (V.ref (s.heap.objs.size + 1) :: (vs ++ dvs)) (Value.ref (s.heap.objs.size + 1) :: (us ++ ds)) := .cons rfl (r.append hd)
  have hl : (Value.ref (s.heap.objs.size + 1) :: us ++ ds).length = ps.length := by
    have e := r2.length
    rw [F.len _ _ _ _ hq] at e
    exact e.symm
  refine wpAny_call (make_map (f := f) I.kIn M.makes M.init (beq_iff_eq.mp M.fn) (codeAny_mono (F.run _ X.stack _ _ ⟨Value.ref (s.heap.objs.size + 1) :: us, []⟩ (Value.ref (s.heap.objs.size + 1) :: (us ++ ds)) _ _ E (hr.make C us [])
    (I2.env0.make C us []) (hb _ (Value.ref (s.heap.objs.size + 1) :: us) I2.kIn hl) r2 hq) fun r s' hq' => ?_))
  cases r with
  | error e => exact hx pins _ _ e s' I2 hq'
  | ok fl =>
    cases fl with
    | ret u =>
      obtain ⟨v, H', I3, rv, ev, q3⟩ := I2.after hq'
      subst ev
      exact ⟨rv, ⟨V.ref (s.heap.objs.size + 1), H', I3, rfl, q3⟩⟩
    | next => exact False.elim hq'
    | brk => exact False.elim hq'
    | cont => exact False.elim hq'
theorem pe_diS {dvs : List V} (tk : Takes X W) (D : Di X.prog X.w X.K X.mg X.base k C ps dvs sp) (hr : Room (k + 1) X.A) (hg : Gl X x) (hm : X.mg x = some (.ref C)) (ha : PA X (e :: es) t) (hdb : (x == ("__debug__" : Str)) = false := by decide)
    (he : starEach (e :: es) X.env = (false, eval e X.env) :: starEach es X.env := by rfl) (hpl : (backTo pos (starEach es X.env)).any (·.1) = false := by rfl) :
    PE X (.Call (.Name x p) (e :: es) [] pos) (tMakeX C sp dvs (WE W) t) := by
  obtain ⟨f, fd, ds, M, hv, b, G⟩ := D.ex
  refine ⟨fun pins s σ H Q I h => ?_⟩
  refine wpAny_Call_Name_kw (ld_glob I hg hm ?_ hdb)
  refine PySem.W.callWith_K (h₀ := X.base) I.ok.mod.kin M.kp (thn (ha.run pos pins s σ H _ I h) fun us s1 ⟨vs, H1, I1, r, q⟩ => ⟨I1.kIn, ?_⟩) he hpl
  exact run_makeX M G hr b hv (L2N.passAt tk σ) I1 r q
/-! ### raise -/
/-- X() -/
theorem pmk_ownZ {bmB : List Value} {B newId initId : String} (F : ExcBaseFacts B newId initId bmB) (q : PySem.W.excIn X.K C bmB newId = true) (gC : X.mg x = some (.ref C)) (kC : PySem.W.keepIn X.K (.ref C) = true) (r : Raises X (.ref C)) (hg : Gl X x)
    (hdb : (x == ("__debug__" : Str)) = false := by decide) : PMk X (.Call (.Name x p) [] [] pos) (fun _ H Q => Q (.ref C) none H) := by
  intro pins s σ H Q I h
  refine wpAny_Call_Name_kw (ld_glob I hg gC ?_ hdb)
  refine PySem.W.callWith_K0 I.kIn kC ?_
  show wpAny _ _ (call (.ref C) []) _ _ _
  obtain ⟨bm, N, nm, qn, bs, hdct, sn, sub, ab, col, dd, k0, k1, k2, k3, k5, mN, hC, hN, hni, T⟩ := exc_obj I.kIn q
  refine wpAny_call_exc_subT F T hC hN hni (fun h' e hm => ?_) (Nat.zero_le _)
  exact L2N.mk_of I hm r h (I.hok.gone hm.new)
end
/-- an error's class with its own __init__ -/
structure Te (K : PySem.W.Frag) (mg : Str → Option Value) (C : Addr) (x qual : Str) (st : Stmt) (ps : List Str) : Prop where
  ex : ∃ f fd, Fun K "__init__" qual st f fd ∧ PySem.W.findIn K (.ref C) "__init__" = some (some (.ref f)) ∧ PySem.W.typeIn K (.ref f) = some (.type "function") ∧ Binds K fd ps []
  g : mg x = some (.ref C)
  ox : OexC K C
structure De (P : Program) (w : World) (K : PySem.W.Frag) (mg : Str → Option Value) (base : Heap) (k : Nat) (C : Addr) (ps : List Str) (sp : Sp) : Prop where
  ex : ∃ f fd, PySem.W.findIn K (.ref C) "__init__" = some (some (.ref f)) ∧ PySem.W.typeIn K (.ref f) = some (.type "function") ∧ Binds K fd ps [] ∧ FnOk P w K mg base (L2N.CX P w) k f fd ps sp
section
variable {P : Program} {w : World} {K : PySem.W.Frag} {mg : Str → Option Value} {base : Heap} {C : Addr} {m x qual : Str} {st : Stmt} {N ps : List Str} {k : Nat} {sp : Sp} {dvs : List V}
theorem Te.ok (T : Te K mg C x qual st ps) (S : FnScope N ps (defScope st)) (len : ∀ vs H Q E, sp vs H Q E → vs.length = ps.length)
    (hbody : ∀ (f : Addr) (cdv : Value) (A : Around) (outer : List Env) (s : Shared) (H : Hp) (vs : List V) (Q : VK) (E : XK), Room k (A.deeper (envOfC qual (defScope st) s.heap.objs.size f cdv)) → sp vs H Q E →
      ∃ t, PSs (cxOf CX0 P w K mg base N qual (defScope st) f cdv A outer s H E).nox (defBody st) t ∧ t { nx := fun _ H' => Q .non H', rt := Q } (L2.start N vs) H) : De P w K mg base (k + 1) C ps sp := by
  obtain ⟨f, fd, F, hi, ht, b⟩ := T.ex
  exact ⟨f, fd, hi, ht, b, FnOk_x (F.ok S len (hbody f))⟩
theorem Tm.okX (T : Tm K C m qual st ps) (S : FnScope N ps (defScope st)) (len : ∀ vs H Q E, sp vs H Q E → vs.length = ps.length)
    (hbody : ∀ (f : Addr) (cdv : Value) (A : Around) (outer : List Env) (s : Shared) (H : Hp) (vs : List V) (Q : VK) (E : XK), Room k (A.deeper (envOfC qual (defScope st) s.heap.objs.size f cdv)) → sp vs H Q E →
      ∃ t, PSs (cxOf (L2N.CX P w) P w K mg base N qual (defScope st) f cdv A outer s H E) (defBody st) t ∧ t { nx := fun _ H' => Q .non H', rt := Q } (L2.start N vs) H) : Dm P w K mg base (k + 1) C m ps sp := by
  obtain ⟨f, fd, F, hm, b⟩ := T.ex
  exact ⟨f, fd, hm, b, fun_okN F S len (hbody f)⟩
theorem Ti.okX (T : Ti K C qual st ps dvs) (S : FnScope N ps (defScope st)) (len : ∀ vs H Q E, sp vs H Q E → vs.length = ps.length)
    (hbody : ∀ (f : Addr) (cdv : Value) (A : Around) (outer : List Env) (s : Shared) (H : Hp) (vs : List V) (Q : VK) (E : XK), Room k (A.deeper (envOfC qual (defScope st) s.heap.objs.size f cdv)) → sp vs H Q E →
      ∃ t, PSs (cxOf (L2N.CX P w) P w K mg base N qual (defScope st) f cdv A outer s H E) (defBody st) t ∧ t { nx := fun _ H' => Q .non H', rt := Q } (L2.start N vs) H) : Di P w K mg base (k + 1) C ps dvs sp := by
  obtain ⟨f, fd, ds, dall, M, F, hv, b⟩ := T.ex
  exact ⟨f, fd, ds, M, hv, b, F.ok (CX := L2N.CX P w) S len (hbody f)⟩
/-- __init__ with one default that is a number, which the call gives -/
theorem ti_mk1f {f T : Addr} {d : Int} {tk : Tok} {o1 : Value} {o2 : Option Addr} {o4 : Array (Option Value)} {nn : Nat} {oc : Value} {od an : Option Addr} {osl : Array (Option Value)} {kV doc pm cdv ct : Value} (a : PySem.W.findIn K (.ref C) "__init__" = some (some (.ref f))) (i : PySem.W.isFn K (.ref f) = true)
    (l : K.lookup f = some ⟨oc, od, .func (PySem.W.fnOf "__init__" qual (defArgs st) (defBody st) (defScope st) (.ref T) kV doc pm an cdv ct), osl⟩) (c : PySem.W.codeIn K cdv qual = true) (kk : PySem.W.keepIn K (.ref f) = true)
    (mk : PySem.W.makesIn K C = true) (kc : PySem.W.keepIn K (.ref C) = true) (lT : K.lookup T = some ⟨o1, o2, .seq #[.int d tk] nn, o4⟩)
    (hb : ∀ (T : Addr) (kV doc pm : Value) (an : Option Addr) (cdv ct : Value) (us its : List Value), us.length = ps.length → its.length = 1 →
      ∃ k, bindArgs (PySem.W.fnOf "__init__" qual (defArgs st) (defBody st) (defScope st) (.ref T) kV doc pm an cdv ct) ⟨us, []⟩ = seqItems? (.ref T) >>= k ∧ k (some its.toArray) = pure (ps.zip (us ++ its.drop 1))) : Ti K C qual st ps [] := by
  have F : FunD K "__init__" qual (defArgs st) (defBody st) (defScope st) [.int d] [] f (PySem.W.fnOf "__init__" qual (defArgs st) (defBody st) (defScope st) (.ref T) kV doc pm an cdv ct) :=
    ⟨⟨oc, od, .ref T, kV, doc, pm, an, cdv, ct, osl, rfl, l, c, .inr ⟨(fun z => by cases z), T, _, [.int d tk], nn, rfl, lT, rfl, .cons ⟨tk, rfl⟩ .nil⟩, .inl rfl⟩, kk⟩
  obtain ⟨ds, hv, b⟩ := F.binds1 (ps := ps) ps.length 1 (fun z => by cases z) rfl hb
  exact ⟨f, _, ds, _, ⟨mk, a, i, kc⟩, F, hv, b⟩
theorem te_mk {f : Addr} {oc : Value} {od an : Option Addr} {osl : Array (Option Value)} {kV doc pm cdv ct : Value} {h : Heap} (X : K.In h) (G : h.Ns mainGlobals mg) (g : PySem.W.nsIn K mainGlobals x = some (some (.ref C))) (ox : OexC K C) (a : PySem.W.findIn K (.ref C) "__init__" = some (some (.ref f))) (i : PySem.W.typeIn K (.ref f) = some (.type "function"))
    (l : K.lookup f = some ⟨oc, od, .func (PySem.W.fnOf "__init__" qual (defArgs st) (defBody st) (defScope st) .none kV doc pm an cdv ct), osl⟩) (c : PySem.W.codeIn K cdv qual = true) (kk : PySem.W.keepIn K (.ref f) = true)
    (hb : ∀ (kV doc pm : Value) (an : Option Addr) (cdv ct : Value) (us : List Value), us.length = ps.length → bindArgs (PySem.W.fnOf "__init__" qual (defArgs st) (defBody st) (defScope st) .none kV doc pm an cdv ct) ⟨us, []⟩ = pure (ps.zip us)) : Te K mg C x qual st ps :=
  ⟨⟨f, _, fun_mk l c kk, a, i, (fun_mk l c kk).binds hb⟩, PySem.W.mg_of X G g, ox⟩
end
section
variable {X : Cx} {C : Addr} {x qual : Str} {st : Stmt} {ps : List Str} {sp : Sp} {k : Nat} {p pos : Pos} {e : Expr} {es : List Expr} {ta : TA}
/-- C(e, ..), C an own class whose __init__ is walked: the context is None -/
theorem pmk_oexN {CX : CXT} {fI : Addr} {fd : FuncData} (T : OexC X.K C) (iC : PySem.W.findIn X.K (.ref C) "__init__" = some (some (.ref fI))) (tI : PySem.W.typeIn X.K (.ref fI) = some (.type "function"))
    (F1 : FnOk X.prog X.w X.K X.mg X.base CX k fI fd ps sp) (hr : Room (k + 1) X.A) (hb : Binds X.K fd ps []) (hx : Passes CX X (fun _ _ _ => False)) (hg : Gl X x) (hm : X.mg x = some (.ref C)) (ha : PA X (e :: es) ta)
    (hdb : (x == ("__debug__" : Str)) = false := by decide) (he : starEach (e :: es) X.env = (false, eval e X.env) :: starEach es X.env := by rfl) (hpl : (backTo pos (starEach es X.env)).any (·.1) = false := by rfl) :
    PMk X (.Call (.Name x p) (e :: es) [] pos) (tMkO C sp [] ta) := by
  intro pins s σ H Q I h
  obtain ⟨nm, q, N, bs, bm, sn, sub, ab, col, dd, k0, k1, k2, k3, k5, hC, hbm⟩ := T.cls
  refine wpAny_Call_Name_kw (ld_glob I hg hm ?_ hdb)
  refine PySem.W.callWith_K (h₀ := X.base) I.ok.mod.kin T.kC (thn (ha.run pos pins s σ H _ I h) fun us s1 ⟨vs, H1, I1, r1, hz, q1⟩ => ⟨I1.kIn, ?_⟩) he hpl
  show wpAny _ _ (call (.ref C) us) _ _ _
  obtain ⟨hp, g, dr, tk, os⟩ := s1
  have hsz : hp.objs.size ≤ hp.objs.size + 1 := Nat.le_succ _
  have hn : H1 (hp.objs.size + 1) = none := I1.hok.fresh hsz
  have hq := q1 (hp.objs.size + 1) hn
  rw [List.append_nil] at hq
  have kk : ∀ b o, hp.get? b = some o → ((hp.push (PySem.W.kdv_tup us)).push (PySem.HandSPX.excO C hp.objs.size)).get? b = some o := fun b o e => Heap.get?_push_of_some _ (Heap.get?_push_of_some _ e)
  have hget : ((hp.push (PySem.W.kdv_tup us)).push (PySem.HandSPX.excO C hp.objs.size)).get? (hp.objs.size + 1) = some (PySem.HandSPX.excO C hp.objs.size) := by heap_get
  have I2 := I1.laid (t' := tk) (a := hp.objs.size + 1) (o := exo (hp.objs.size + 1) C none) (h' := (hp.push (PySem.W.kdv_tup us)).push (PySem.HandSPX.excO C hp.objs.size)) kk hsz (exo_ok hget)
  have r2 : Vals (V.ref (hp.objs.size + 1) :: vs) (Value.ref (hp.objs.size + 1) :: us) := .cons rfl r1
  have hl : (Value.ref (hp.objs.size + 1) :: us ++ []).length = ps.length := by
    have e := r2.length
    rw [F1.len _ _ _ _ hq] at e
    rw [List.append_nil]
    exact e.symm
  have hus : us.length ≤ sizeLine := by
    rw [← PySem.Paired.length r1, sizeLine_eq]
    omega
  have b2 := hb _ (Value.ref (hp.objs.size + 1) :: us) I2.kIn hl
  rw [List.append_nil] at b2
  refine wpAny_call (PySem.HandSPX.call_own PySem.F.excBase_ValueError (fun Y => PySem.HandSPX.refsVE_contains Y bm hbm) (I1.kIn _ _ hC) (PySem.W.looks_findIn I1.kIn iC) (fun self => PySem.W.bind_fn I1.kIn self tI) hus
    (codeAny_mono (F1.run _ X.stack _ _ ⟨Value.ref (hp.objs.size + 1) :: us, []⟩ (Value.ref (hp.objs.size + 1) :: us) _ _ (fun _ _ _ => False) (hr.make C us []) (I2.env0.make C us []) b2 r2 hq) fun r s' hq' => ?_))
  cases r with
  | error er => exact hx pins σ _ _ er s' I2 hq'
  | ok fl =>
    cases fl with
    | ret u =>
      obtain ⟨v, H2, os2, bare2, un2, hok2, rv, ev, d, fs, ea, ed, hd1, q2⟩ := hq'
      subst ev
      obtain ⟨h2, g2, d2, t2, os'⟩ := s'
      obtain ⟨t0, G, J, kG, ge, hoe, na⟩ := mk_end0 (d2 := d2) (t2 := t2) I1 hsz kk un2 hok2 os2 bare2 ea ed hd1
      exact ⟨rv, ⟨hp.objs.size + 1, _, _, ⟨G, g2, d2, t2, os'⟩, _, .ref C, some d, rfl, J, kG, ge, hoe, ⟨rfl, rfl, fun vs hv => by cases hv; rfl⟩, rfl, rfl, na, rfl, bare2, raises_own T.exC T.tyC, q2⟩⟩
    | next => exact False.elim hq'
    | brk => exact False.elim hq'
    | cont => exact False.elim hq'
theorem pmk_de (T : Te X.K X.mg C x qual st ps) (D : De X.prog X.w X.K X.mg X.base k C ps sp) (hr : Room (k + 1) X.A) (hg : Gl X x) (ha : PA X (e :: es) ta)
    (hdb : (x == ("__debug__" : Str)) = false := by decide) (he : starEach (e :: es) X.env = (false, eval e X.env) :: starEach es X.env := by rfl) (hpl : (backTo pos (starEach es X.env)).any (·.1) = false := by rfl) :
    PMk X (.Call (.Name x p) (e :: es) [] pos) (tMkO C sp [] ta) := by
  obtain ⟨f, fd, hi, ht, b, G⟩ := D.ex
  refine pmk_oexN T.ox hi ht G hr b (fun pins σ H s e s' _ h => ?_) hg T.g ha hdb he hpl
  obtain ⟨_, _, _, _, _, _, _, _, _, _, _, _, z⟩ := h
  exact z.elim
end
/-- __init__(self, f): self.f = f -/
def spX1 (K : PySem.W.Frag) (C : Addr) (f : Str) : Sp := fun vs H Q _ => ∃ a v, vs = [.ref a, v] ∧ OexC K C ∧ PySem.W.findIn K (.ref C) f = some none ∧ H a = some (exo a C none) ∧ ∀ dx, H dx = none → dx ≠ a → Q .non (upd (upd H dx (exd dx [(f, v)])) a (exo a C (some dx)))
theorem spX1_len {K : PySem.W.Frag} {C : Addr} {f : Str} : ∀ vs H Q E, spX1 K C f vs H Q E → vs.length = 2 := by
  rintro vs H Q E ⟨a, v, rfl, _⟩; rfl
/-- __init__(self, f, g): self.f = f; self.g = g -/
def spX2 (K : PySem.W.Frag) (C : Addr) (f g : Str) : Sp := fun vs H Q _ => ∃ a v u, vs = [.ref a, v, u] ∧ OexC K C ∧ PySem.W.findIn K (.ref C) f = some none ∧ PySem.W.findIn K (.ref C) g = some none ∧ H a = some (exo a C none) ∧
  ∀ dx, H dx = none → dx ≠ a → Q .non (upd (upd (upd H dx (exd dx [(f, v)])) a (exo a C (some dx))) dx (exd dx [(g, u), (f, v)]))
theorem spX2_len {K : PySem.W.Frag} {C : Addr} {f g : Str} : ∀ vs H Q E, spX2 K C f g vs H Q E → vs.length = 3 := by
  rintro vs H Q E ⟨a, v, u, rfl, _⟩; rfl
section
variable {Z : Bs} {F H F' H' : Hp} {σ σ' : L2.St} {Γ Γ' : Gm} {Ω Ω' Ωr : Om} {K : PySem.W.Frag} {te ta tb tl : TE} {tt : TT} {R Rx Ry : As} {Rs Ss : List As} {n : L2.St → Hp → Prop} {r : VK} {bk ct : L2.St → Hp → Prop} {p C dx : Addr} {fs : List (Str × As)} {f g m : Str} {i j : Nat}
theorem x1_body {C : Addr} {f : Str} {vs : List V} {Q : VK} {E : XK} {D : Ends} (h : spX1 K C f vs H Q E) (hD : ∀ σ H', Q .non H' → D.nx σ H') : tOst K f (tVar 0) (tVar 1) D (L2.start ["self", f] vs) H := by
  obtain ⟨a, v, rfl, ox, hn, ha, hq⟩ := h
  exact ⟨v, rfl, .ref a, rfl, a, C, rfl, ox, hn, .inl ⟨ha, fun dx h1 h2 => hD _ _ (hq dx h1 h2)⟩⟩
theorem x2_body {C : Addr} {f g : Str} {vs : List V} {Q : VK} {E : XK} {D : Ends} (h : spX2 K C f g vs H Q E) (hD : ∀ σ H', Q .non H' → D.nx σ H') : tSeq (tOst K f (tVar 0) (tVar 1)) (tOst K g (tVar 0) (tVar 2)) D (L2.start ["self", f, g] vs) H := by
  obtain ⟨a, v, u, rfl, ox, hn, hn2, ha, hq⟩ := h
  refine ⟨v, rfl, .ref a, rfl, a, C, rfl, ox, hn, .inl ⟨ha, fun dx h1 h2 => ?_⟩⟩
  refine ⟨u, rfl, .ref a, rfl, a, C, rfl, ox, hn2, .inr ⟨dx, _, upd_same, ?_, (by show 1 ≤ 900; decide), hD _ _ (hq dx h1 h2)⟩⟩
  rw [upd_ne h2]; exact upd_same
theorem del_upd {H : Hp} {a d : Addr} {o1 o2 o3 : HO} {fs : List (Str × V)} (ha : H a = none) (hd : d ≠ a) : upd (del (upd (upd (upd H a o1) d o2) a o3) a) d (.xd fs) = upd H d (.xd fs) := by
  funext b
  by_cases e : b = d
  · subst e; rw [upd_same, upd_same]
  · rw [upd_ne e, upd_ne e]
    by_cases e2 : b = a
    · subst e2; rw [del_same, ha]
    · rw [del_ne e2, upd_ne e2, upd_ne e, upd_ne e2]
theorem del_upd2 {H : Hp} {a d : Addr} {o1 o2 o3 o4 : HO} {fs : List (Str × V)} (ha : H a = none) (hd : d ≠ a) : upd (del (upd (upd (upd (upd H a o1) d o2) a o3) d o4) a) d (.xd fs) = upd H d (.xd fs) := by
  funext b
  by_cases e : b = d
  · subst e; rw [upd_same, upd_same]
  · rw [upd_ne e, upd_ne e]
    by_cases e2 : b = a
    · subst e2; rw [del_same, ha]
    · rw [del_ne e2, upd_ne e, upd_ne e2, upd_ne e, upd_ne e2]
/-- X(e), made -/
theorem mk_x1 {ta : TA} {Q : XK} (c : Ctx Z F H σ Γ Ω) (ox : OexC K C) (hn : PySem.W.findIn K (.ref C) f = some none) (e : EvA Γ Ω ta [R]) (k : ∀ d F' H', Ctx Z F' H' σ Γ ((d, oXd [(f, R)]) :: Ω) → Same F F' → Z.H d = none → Q (.ref C) (some d) H') : tMkO C (spX1 K C f) [] ta σ H Q :=
  e Z F H σ c _ fun vs F1 H1 c1 s1 rs => by
    obtain ⟨v, rfl, rv⟩ := rs.one
    refine ⟨by show 1 ≤ 1000; decide, fun a ha => ⟨a, v, rfl, ox, hn, upd_same, fun d hd hne => ⟨rfl, d, [(f, v)], upd_same, by rw [upd_ne hne]; exact upd_same, ?_, ?_⟩⟩⟩
    · rw [upd_ne hne] at hd; exact hd
    · rw [upd_ne hne] at hd
      rw [del_upd ha hne]
      exact k d F1 _ (c1.grow (A := oXd [(f, R)]) hd ⟨_, rfl, rfl, rv, trivial⟩) s1.fe (c1.ext.dm _ hd)
/-- X(e, e'), made -/
theorem mk_x2 {ta : TA} {R2 : As} {Q : XK} (c : Ctx Z F H σ Γ Ω) (ox : OexC K C) (hn : PySem.W.findIn K (.ref C) f = some none) (hn2 : PySem.W.findIn K (.ref C) g = some none) (e : EvA Γ Ω ta [R, R2]) (k : ∀ d F' H', Ctx Z F' H' σ Γ ((d, oXd [(g, R2), (f, R)]) :: Ω) → Same F F' → Z.H d = none → Q (.ref C) (some d) H') : tMkO C (spX2 K C f g) [] ta σ H Q :=
  e Z F H σ c _ fun vs F1 H1 c1 s1 rs => by
    obtain ⟨v, u, rfl, rv, ru⟩ := rs.two
    refine ⟨by show 2 ≤ 1000; decide, fun a ha => ⟨a, v, u, rfl, ox, hn, hn2, upd_same, fun d hd hne => ⟨rfl, d, [(g, u), (f, v)], by rw [upd_ne (Ne.symm hne)]; exact upd_same, upd_same, ?_, ?_⟩⟩⟩
    · rw [upd_ne hne] at hd; exact hd
    · rw [upd_ne hne] at hd
      rw [del_upd2 ha hne]
      exact k d F1 _ (c1.grow (A := oXd [(g, R2), (f, R)]) hd ⟨_, rfl, rfl, ru, rfl, rv, trivial⟩) s1.fe (c1.ext.dm _ hd)
/-! ### readings of calls that may raise -/
theorem cl_E {α : Type} {args : α → List As} {pre good : α → Prop} {res : α → As} {W : L2.St → XK} {ta : TA} {Q : VK} (a : α) (c : Ctx Z F H σ Γ Ω) (h : EvA Γ Ω ta (args a)) (hp : pre a)
    (k1 : good a → ∀ v F' H', Ctx Z F' H' σ Γ Ω → Same F F' → (res a).p F' v → Q v H') (k2 : ¬ good a → ∀ F' H', Ctx Z F' H' σ Γ Ω → Same F F' → W σ (.ref C) none H') : tCallS (CtE args pre res good C) W ta σ H Q :=
  h Z F H σ c _ fun vs F1 H1 c1 s1 rs => ⟨a, F1, c1.sub, rs, hp, fun g v F2 H2 e2 s2 rv => k1 g v F2 H2 (c1.step e2 s2) (s1.fe.trans e2.fe) rv, fun g F2 H2 e2 s2 => k2 g F2 H2 (c1.step e2 s2) (s1.fe.trans e2.fe)⟩
theorem cl_X {α : Type} {args : α → List As} {pre good : α → Prop} {res : α → As} {xf : α → List (Str × As)} {W : L2.St → XK} {ta : TA} {Q : VK} (a : α) (c : Ctx Z F H σ Γ Ω) (h : EvA Γ Ω ta (args a)) (hp : pre a)
    (k1 : good a → ∀ v F' H', Ctx Z F' H' σ Γ Ω → Same F F' → (res a).p F' v → Q v H') (k2 : ¬ good a → ∀ d F' H', Ctx Z F' H' σ Γ ((d, oXd (xf a)) :: Ω) → Same F F' → W σ (.ref C) (some d) H') : tCallS (CtX args pre good res C xf) W ta σ H Q :=
  h Z F H σ c _ fun vs F1 H1 c1 s1 rs => ⟨a, F1, c1.sub, rs, hp, fun g v F2 H2 e2 s2 rv => k1 g v F2 H2 (c1.step e2 s2) (s1.fe.trans e2.fe) rv, fun g d F2 H2 e2 s2 o hd => k2 g d F2 H2 (c1.add e2 s2 o hd) (s1.fe.trans e2.fe)⟩
theorem ev_callX {α : Type} {args : α → List As} {pre good : α → Prop} {res : α → As} {xf : α → List (Str × As)} {E : XK} {ta : TA} (a : α) (h : EvA Γ Ω ta (args a)) (hp : pre a) (hg : good a) : Ev Γ Ω (tCall (CtX args pre good res C xf) [] E ta) (res a) := fun Z F H σ c Q q =>
  h Z F H σ c _ fun vs F1 H1 c1 s1 rs => ⟨a, F1, c1.sub, by rw [List.append_nil]; exact rs, hp, fun _ v F2 H2 e2 s2 r => q v F2 H2 (c1.step e2 s2) (s1.trans e2) r, fun n => absurd hg n⟩
theorem Ctx.plus {A : OA} (c : Ctx Z F H σ Γ Ω) (o : Own F H [(p, A)]) (hz : Z.H p = none) (hd : ∀ x, x ∈ Ω → x.1 ≠ p) : Ctx Z F H σ Γ ((p, A) :: Ω) := by
  refine ⟨c.sat, c.sub, fun x hx => ?_, ?_, fun x hx => ?_, c.ext, c.pin⟩
  · rcases List.mem_cons.mp hx with z | hx
    · subst z; exact o _ List.mem_cons_self
    · exact c.own x hx
  · rw [List.map_cons, List.nodup_cons]
    refine ⟨fun hx => ?_, c.nd⟩
    obtain ⟨x, hx, z⟩ := List.mem_map.mp hx
    exact hd x hx z
  · rcases List.mem_cons.mp hx with z | hx
    · subst z; exact .inr (.inl hz)
    · exact c.loc x hx
theorem cl_MX {α : Type} {args : α → List As} {Oi Oo : α → Om} {pre good : α → Prop} {res : α → As} {C' : Addr} {xf : α → List (Str × As)} {W : L2.St → XK} {t : TA} {Q : VK} (a : α) (c : Ctx Z F H σ Γ Ω) (ho : Ev Γ Ω ta (Rf p)) (hm : Ω[j]? = some (p, oI C dx fs)) (hn : fs.lookup m = none) (h : EvA Γ Ω t Rs) (ha : args a = Rf p :: Rs) (hs : Ω.Perm (Oi a ++ Ωr)) (hp : pre a)
    (hoo : (Oo a).map (·.1) = (Oi a).map (·.1)) (k1 : good a → ∀ v F' H', Ctx Z F' H' σ Γ (Oo a ++ Ωr) → Same F F' → (res a).p F' v → Q v H')
    (k2 : ¬ good a → ∀ d F' H', Ctx Z F' H' σ Γ ((d, oXd (xf a)) :: (Oi a ++ Ωr)) → Same F F' → W σ (.ref C') (some d) H') (hro : Z.ro = [] := by rfl) : tMethX C m (CtMX args Oi pre good res Oo C' xf) W ta t σ H Q :=
  ho Z F H σ c _ fun x F1 H1 c1 s1 rx => by
    cases rx
    obtain ⟨_, o, h2, vs, eo, hf⟩ := c1.own _ (List.mem_of_getElem? hm)
    subst eo
    refine ⟨p, dx, vs, rfl, h2, hf.none hn, h Z F1 H1 σ c1 _ fun ws F2 H2 c2 s2 rs => ?_⟩
    have cp := c2.perm hs
    refine ⟨a, F2, c2.sub, ?_, cp.own.sub fun x hx => List.mem_append_left _ hx, ?_, hp, fun g v F3 H3 e3 s3 rv ow => k1 g v F3 H3 (cp.changed e3 s3 ow hoo hro) ((s1.trans s2).fe.trans e3.fe) rv, fun g d F3 H3 e3 s3 ow hd => ?_⟩
    · rw [ha]
      exact ⟨rfl, rs⟩
    · have nd := cp.nd
      rw [List.map_append, List.nodup_append] at nd
      exact nd.1
    · have c3 := cp.changed e3 s3 (ow.sub fun x hx => List.mem_cons_of_mem _ hx) rfl hro
      refine k2 g d F3 H3 (c3.plus (fun x hx => ow x (by rw [List.mem_singleton.mp hx]; exact List.mem_cons_self)) (cp.ext.dm _ hd) fun x hx z => ?_) ((s1.trans s2).fe.trans e3.fe)
      obtain ⟨_, o', h3, _⟩ := cp.own x hx
      rw [z, hd] at h3
      cases h3
/-- a constructor that may raise, with the value dropped or kept -/
theorem cl_ME {α : Type} {args : α → Addr → List As} {Oi Oo : α × Addr × Addr → Om} {pre good : α × Addr × Addr → Prop} {res : α × Addr × Addr → As} {C' : Addr} {W : L2.St → XK} {t : TA} {Q : VK} {Ds : List As} {dvs : List V} (a : α) (c : Ctx Z F H σ Γ Ω) (h : EvA Γ Ω t Rs) (hd : ∀ F, All F Ds dvs) (ha : ∀ x, args a x = Rf x :: (Rs ++ Ds)) (hoi : ∀ x dx, Oi (a, x, dx) = [(x, oI C dx [])]) (hp : ∀ x dx, pre (a, x, dx)) (hr : ∀ x dx F v, (res (a, x, dx)).p F v → v = .non)
    (hoo : ∀ x dx, (Oo (a, x, dx)).map (·.1) = [x]) (k1 : ∀ x dx, good (a, x, dx) → ∀ F' H', Ctx Z F' H' σ Γ (Oo (a, x, dx) ++ Ω) → Same F F' → Q (.ref x) H') (k2 : ∀ x dx, ¬ good (a, x, dx) → ∀ F' H', Ctx Z F' H' σ Γ Ω → Same F F' → W σ (.ref C') none H') (hro : Z.ro = [] := by rfl) : tMakeX C (CtME (fun b : α × Addr × Addr => args b.1 b.2.1) Oi pre good res Oo C') dvs W t σ H Q :=
  h Z F H σ c _ fun vs F1 H1 c1 s1 rs => by
    intro x dx hx hd' hne
    have c2 := (c1.grow (p := dx) (o := .own x) (A := ⟨fun _ _ => True, fun _ h => h⟩) hd' trivial).tail
    have hx2 : upd H1 dx (.own x) x = none := by rw [upd_ne (Ne.symm hne)]; exact hx
    have c3 := c2.grow (p := x) (o := .ins C dx []) (A := oI C dx []) hx2 ⟨[], rfl, trivial⟩
    have c3' : Ctx Z F1 (upd (upd H1 dx (.own x)) x (.ins C dx [])) σ Γ (Oi (a, x, dx) ++ Ω) := by rw [hoi]; exact c3
    refine ⟨(a, x, dx), F1, c3.sub, ?_, c3'.own.sub fun y hy => List.mem_append_left _ hy, by rw [hoi]; simp, hp x dx, fun g v F3 H3 e3 s3 rv ow => ⟨hr x dx _ _ rv, ?_⟩, fun g F3 H3 e3 s3 ow => ?_⟩
    · dsimp only
      rw [ha]
      exact ⟨rfl, rs.app (hd F1)⟩
    · exact k1 x dx g F3 H3 (c3'.changed e3 s3 ow (by rw [hoo, hoi]; rfl) hro) (s1.fe.trans e3.fe)
    · have c4 := c3'.changed e3 s3 ow rfl hro
      rw [hoi] at c4
      exact k2 x dx g F3 H3 c4.tail (s1.fe.trans e3.fe)
/-- the same constructor where it does not raise, outside of any try -/
theorem st_makeE {α : Type} {args : α → Addr → List As} {Oi Oo : α × Addr × Addr → Om} {pre good : α × Addr × Addr → Prop} {res : α × Addr × Addr → As} {C' : Addr} {E : XK} {t : TA} {Ds : List As} {dvs : List V} (a : α) (c : Ctx Z F H σ Γ Ω) (h : EvA Γ Ω t Rs) (hd : ∀ F, All F Ds dvs) (ha : ∀ x, args a x = Rf x :: (Rs ++ Ds)) (hoi : ∀ x dx, Oi (a, x, dx) = [(x, oI C dx [])]) (hp : ∀ x dx, pre (a, x, dx)) (hg : ∀ x dx, good (a, x, dx)) (hr : ∀ x dx F v, (res (a, x, dx)).p F v → v = .non)
    (hoo : ∀ x dx, (Oo (a, x, dx)).map (·.1) = [x]) (k : ∀ x dx F' H' σ', Ctx Z F' H' σ' (Γ.set i (some (Rf x))) (Oo (a, x, dx) ++ Ω) → n σ' H') (hro : Z.ro = [] := by rfl) : tAsg (tMake C (CtME (fun b : α × Addr × Addr => args b.1 b.2.1) Oi pre good res Oo C') dvs E t) (gName i) ⟨n, r, bk, ct⟩ σ H :=
  h Z F H σ c _ fun vs F1 H1 c1 s1 rs => by
    intro x dx hx hd' hne
    have c2 := (c1.grow (p := dx) (o := .own x) (A := ⟨fun _ _ => True, fun _ h => h⟩) hd' trivial).tail
    have hx2 : upd H1 dx (.own x) x = none := by rw [upd_ne (Ne.symm hne)]; exact hx
    have c3 := c2.grow (p := x) (o := .ins C dx []) (A := oI C dx []) hx2 ⟨[], rfl, trivial⟩
    have c3' : Ctx Z F1 (upd (upd H1 dx (.own x)) x (.ins C dx [])) σ Γ (Oi (a, x, dx) ++ Ω) := by rw [hoi]; exact c3
    refine ⟨(a, x, dx), F1, c3.sub, ?_, c3'.own.sub fun y hy => List.mem_append_left _ hy, by rw [hoi]; simp, hp x dx, fun g v F3 H3 e3 s3 rv ow => ⟨hr x dx _ _ rv, ?_⟩, fun g => absurd (hg x dx) g⟩
    · dsimp only
      rw [ha]
      exact ⟨rfl, rs.app (hd F1)⟩
    · exact k x dx F3 H3 _ ((c3'.changed e3 s3 ow (by rw [hoo, hoi]; rfl) hro).set i rfl)
/-! ### suites -/
theorem w_only {cl cls : Value} {ts : Addr → Value → Option Addr → TS} {Wout : WX} {D : Ends} {d : Option Addr} (te : PySem.W.exmOne K cls cl = some true) (k : ∀ a0, H a0 = none → ts a0 cls d D σ H) : wOnly K cl ts Wout D cls d σ H := ⟨true, te, fun _ => k, fun z => Bool.noConfusion z⟩
theorem w_as {cl cls : Value} {ts : Addr → Value → Option Addr → TS} {Wout : WX} {D : Ends} {d : Option Addr} (te : PySem.W.exmOne K cls cl = some true)
    (k : ∀ a0, H a0 = none → ts a0 cls d { nx := fun σ' H' => D.nx (σ'.set i none) H', rt := D.rt, bk := fun σ' H' => D.bk (σ'.set i none) H', ct := fun σ' H' => D.ct (σ'.set i none) H' } (σ.set i (some (.ref a0))) H) : wAs K cl i ts Wout D cls d σ H := ⟨true, te, fun _ => k, fun z => Bool.noConfusion z⟩
theorem Ctx.clr (c : Ctx Z F H σ Γ Ω) (i : Nat) : Ctx Z F H (σ.set i none) (Γ.set i none) Ω := c.slots (c.sat.unset i)
/-- e.f, e the error that the suite holds -/
theorem ev_xf {a d : Addr} (ha : Ev Γ Ω ta (Rf a)) (hm : Ω[j]? = some (d, oXd fs)) (hl : fs.lookup f = some R) : Ev Γ Ω (tXf a (.ref C) (some d) C f ta) R := fun Z F H σ c Q q =>
  ha Z F H σ c _ fun x F1 H1 c1 s1 rx => by
    cases rx
    obtain ⟨_, o, h2, vs, e, hv⟩ := c1.own _ (List.mem_of_getElem? hm)
    subst e
    obtain ⟨v, e1, rv⟩ := hv.get hl
    exact ⟨rfl, rfl, d, vs, v, rfl, h2, e1, q v F1 H1 c1 s1 rv⟩
end
/-! ### isinstance of the error that a suite holds -/
end Y
namespace PySem.W
open PySem PySem.Spec PySem.Calls PyProof.Rows
section
variable {prog : Program} {w : World} {A : Around} {E : Value → Shared → Prop} {s : Shared} {K : Frag} {x D : Addr} {ox : Obj}
theorem findObj_dataD {C : Addr} {od : Option Obj} {name : Str} {a g : Value} (hc : (clsIn K C).isSome = true) (ha : findIn K (.ref C) name = some (some a)) (hg : specialIn K a "__get__" = some (some g)) (ht : takesIn K a = some true) : findObj K C od name = some (.bind g a) := by
  obtain ⟨cd, hc⟩ := Option.isSome_iff_exists.mp hc
  unfold findObj
  rw [hc, Option.bind_some, ha, Option.bind_some]
  simp [hg, ht]
theorem kin_classD {od : Option Obj} {Q : Option Value → Shared → Prop} (hga : findIn K (.ref D) "__getattribute__" = some (some (.builtin "BaseException.__getattribute__"))) (hgt : findIn K (.ref D) "__getattr__" = some none) (hsub : subIn K (.ref D) (.type "BaseException") = some true)
    (hdct : hasDictIn K D = true) (ha : findIn K (.ref D) "__class__" = some (some (.builtin "object.__class__")))
    (hn : specialIn K (.builtin "object.__class__") "__get__" = some (some (.builtin "getset_descriptor.__get__"))) (htk : takesIn K (.builtin "object.__class__") = some true) (hm : mroIn K D (.type "object") = some true)
    (X : K.In s.heap) (I : InstAt s.heap x ox D od) (h : Q (some (.ref D)) { s with toks := s.toks + 1 }) : wpAny (model prog w) A (getAttr? (.ref x) "__class__") Q E s := by
  have hf : findObj K D od "__class__" = some (.bind (.builtin "getset_descriptor.__get__") (.builtin "object.__class__")) := findObj_dataD (by obtain ⟨cd, hc, _⟩ := any_some hdct; rw [hc]; rfl) ha hn htk
  obtain ⟨hp, g, d, t, os⟩ := s
  have L0 := I.type (M := model prog w)
  have L1 := looks_findIn (M := model prog w) X hga
  have L2 := looks_findIn (M := model prog w) X hgt
  have L3 := looks_find (M := model prog w) X I hf
  have sub : Looks (model prog w) hp (isInstance (.ref x) (.type "BaseException")) true := L0.andThen (looks_subIn X hsub)
  have hx0 : (false && onTheHeap (Value.builtin "BaseException.__getattribute__")) = false := rfl
  have hx2 : (Value.builtin "BaseException.__getattribute__" == Value.builtin "object.__getattribute__") = false := by decide +kernel
  have hx1 : (onTheHeap (Value.ref D) && Value.builtin "BaseException.__getattribute__" == Value.builtin "object.__getattribute__") = false := by rw [hx2]; rfl
  unfold getAttr? getAttrBy? getAttrBy
  refine wpAny_bind (wpAny_mkText (wpAny_bind (wpAny_attempt (wpAny_holding (wpAny_bind (L0.at (wpAny_bind (L1.at ?_))))))))
  show wpAny _ _ (if (onTheHeap (Value.ref D) && Value.builtin "BaseException.__getattribute__" == Value.builtin "object.__getattribute__") = true then _ else _) _ _ _
  rw [hx1, if_neg Bool.false_ne_true]
  unfold getAttrByItsOwn hookBefore
  refine wpAny_bind ?_
  rw [if_pos (show onTheHeap (Value.ref D) = true from rfl)]
  refine L2.at ?_
  refine wpAny_bind (wpAny_attempt (wpAny_holding ?_))
  unfold callGetattribute
  rw [hx0, if_neg Bool.false_ne_true]
  unfold boundAndCalled
  rw [PySem.F.excAttr_ValueError.ga.bind (.ref x)]
  refine wpAny_bind (wpAny_pure ?_)
  show wpAny _ _ (call (.builtin "BaseException.__getattribute__") [.ref x, .str "__class__" t]) _ _ _
  refine wpAny_call (codeAny_call_builtin PySem.F.excAttr_ValueError.ga.plain PySem.F.entry_bexc_ga ?_)
  refine @check_slot (model prog w) _ _ ⟨hp, g, d, t + 1, os⟩ "BaseException.__getattribute__" "BaseException" "__getattribute__" (.ref x) [.str "__class__" t] [] _ (by decide +kernel) (by decide +kernel) sub (PySem.F.args_bexc_ga (.ref x) (.str "__class__" t)) ?_
  unfold Builtin.«object.__getattribute__»
  refine wpAny_bind (wpAny_of_eq (a := ((Value.ref x : Value), [Value.str "__class__" t])) (by first | rfl | (simp only [slotArgs]; rfl)) ?_)
  refine wpAny_bind (wpAny_pure (wpAny_bind (L0.at (wpAny_bind (L3.at ?_)))))
  show wpAny _ _ (holding [Value.builtin "object.__class__"] (call (.builtin "getset_descriptor.__get__") [.builtin "object.__class__", .ref x, .ref D]) >>= ret) _ _ _
  refine wpAny_bind (wpAny_holding (wpAny_call (class_get (s := ⟨hp, g, d, t + 1, os⟩) (ox := ox) (od := od) X I hm ?_)))
  refine wpAny_pure ?_
  show wpAny _ _ (handedOut (.ref D)) _ _ _
  rw [handedOut_of (v := .ref D) rfl]
  first
    | exact wpAny_pure (wpAny_pure h)
    | exact wpAny_pure h
    | exact wpAny_pure (wpAny_bind (wpAny_pure (wpAny_pure h)))
theorem kitx_excD {od : Option Obj} (hga : findIn K (.ref D) "__getattribute__" = some (some (.builtin "BaseException.__getattribute__"))) (hgt : findIn K (.ref D) "__getattr__" = some none) (hsub : subIn K (.ref D) (.type "BaseException") = some true) (hdct : hasDictIn K D = true) (ha : findIn K (.ref D) "__class__" = some (some (.builtin "object.__class__")))
    (hn : specialIn K (.builtin "object.__class__") "__get__" = some (some (.builtin "getset_descriptor.__get__"))) (htk : takesIn K (.builtin "object.__class__") = some true) (hm : mroIn K D (.type "object") = some true) :
    KitX K (.ref x) (.ref D) (fun h => InstAt h x ox D od) where
  ty := fun _ _ _ I => I.type
  it := fun _ _ X _ => by
    obtain ⟨cdD, hcD, _⟩ := any_some hdct
    unfold clsIn at hcD
    split at hcD
    · rename_i c' d' cd' sl' ho
      intro A' Q' E' s' k q
      unfold isType loadHead
      exact wpAny_bind (wpAny_loadPart (k _ _ (X _ _ ho)) (wpAny_pure q))
    · cases hcD
  ne := fun h tp dd its n sl X htp => by
    obtain ⟨cdD, hcD, _⟩ := any_some hdct
    refine Bool.eq_false_iff.mpr fun q => ?_
    have e : D = tp := Value.ref.inj (beq_iff_eq.mp q)
    subst e
    unfold clsIn at hcD
    split at hcD
    · rename_i c' d' cd' sl' ho
      have z := (X _ _ ho).symm.trans htp
      cases z
    · cases hcD
  ca := fun X I k => kin_classD hga hgt hsub hdct ha hn htk hm X I k
end
end PySem.W
namespace Y
open PySem L2 PySem.Spec
open PyProof.Rows (envOfC)
/-- what is known of the error: its class D; no dict, or a tracked one -/
def Kn (D : Addr) (cls : Value) (d : Option Addr) (H : Hp) : Prop := cls = .ref D ∧ (d = none ∨ ∃ dd fs, d = some dd ∧ H dd = some (.xd fs))
def rIsE1 (K : PySem.W.Frag) (D a : Addr) (cls : Value) (d : Option Addr) : List V → Hp → VK → Prop := fun xs H Q => ∃ (c : V) (cv : Value) (b : Bool), xs = [.ref a, c] ∧ Kn D cls d H ∧ (∀ u, RelV c u → u = cv) ∧ PySem.W.kitOne K (.ref D) cv = some b ∧ Q (.bl b) H
def rIsET (K : PySem.W.Frag) (D a : Addr) (cls : Value) (d : Option Addr) : List V → Hp → VK → Prop := fun xs H Q => ∃ (tp : Addr) (cs : List V) (ws : List Value) (b : Bool), xs = [.ref a, .ref tp] ∧ Kn D cls d H ∧ H tp = some (.tup cs) ∧ Paired ClsV cs ws ∧ PySem.W.kitAny K (.ref D) ws = some b ∧ Q (.bl b) H
section
variable {X : Cx} {a D : Addr} {cls : Value} {d : Option Addr} {oe : Obj} {pn : List (Addr × Obj)}
theorem kn_inst {pins : List (Addr × Obj)} {s : Shared} {σ : L2.St} {H : Hp} (hz : Zc cls d oe) (hf : ∃ vs, oe.data = .fields vs) (I : L2.Inv (X.suite a ((a, oe) :: pn)) pins σ H s) (h : Kn D cls d H) : ∃ od, PySem.W.InstAt s.heap a oe D od := by
  obtain ⟨ha, _⟩ := I.pin (a, oe) (List.mem_append_left _ List.mem_cons_self)
  obtain ⟨vs, hd⟩ := hf
  obtain ⟨ec, hh⟩ := h
  subst ec
  rcases hh with e | ⟨dd, fs, e, hx⟩
  · subst e
    exact ⟨none, ha, hz.1, by unfold PySem.W.notCls; rw [hd] <;> rfl, by rw [hz.2]; trivial⟩
  · subst e
    have hx : ObjOk X.prog X.w H s.heap dd (.xd fs) := I.hok dd _ hx
    obtain ⟨mA, hns, hr⟩ := hx
    obtain ⟨od, ho, hl⟩ := lookIn_ns hns
    exact ⟨some od, ha, hz.1, by unfold PySem.W.notCls; rw [hd] <;> rfl, by rw [hz.2]; exact ho⟩
theorem call_isE1 (C : ExcC X.K D) (hz : Zc cls d oe) (hf : ∃ vs, oe.data = .fields vs) : CallR (X.suite a ((a, oe) :: pn)) (.builtin "isinstance") (rIsE1 X.K D a cls d) := by
  intro pins s σ H xs us Q I r h
  obtain ⟨c, cv, b, rfl, kn, hcv, e, q⟩ := h
  obtain ⟨u1, u2, rfl, r1, r2⟩ := vals2 r
  cases (show u1 = Value.ref a from r1)
  have ec := hcv _ r2
  subst ec
  obtain ⟨od, J⟩ := kn_inst hz hf I kn
  exact PySem.W.kia_one (PySem.W.kitx_excD C.hg C.hk C.hs C.hd C.ha C.hn C.ht C.hm) I.kIn J e (fun z => nomatch z) fun tk => ⟨.bl b, H, I.kept (t' := tk) fun _ _ z => z, rfl, q⟩
theorem call_isET (C : ExcC X.K D) (hz : Zc cls d oe) (hf : ∃ vs, oe.data = .fields vs) : CallR (X.suite a ((a, oe) :: pn)) (.builtin "isinstance") (rIsET X.K D a cls d) := by
  intro pins s σ H xs us Q I r h
  obtain ⟨tp, cs, ws, b, rfl, kn, hT, k, e, q⟩ := h
  obtain ⟨u1, u2, rfl, r1, r2⟩ := vals2 r
  cases (show u1 = Value.ref a from r1)
  cases (show u2 = Value.ref tp from r2)
  obtain ⟨od, J⟩ := kn_inst hz hf I kn
  obtain ⟨_, its, rv, o, h1, h2, n, h3⟩ := (show ObjOk X.prog X.w H s.heap tp (.tup cs) from I.hok tp _ hT)
  have e3 := ClsV.all k rv
  subst e3
  obtain ⟨oc, od', dt, sl⟩ := o
  simp only at h2 h3
  subst h2 h3
  exact PySem.W.kia_tup (PySem.W.kitx_excD C.hg C.hk C.hs C.hd C.ha C.hn C.ht C.hm) I.kIn J h1 e (fun z => nomatch z) fun tk => ⟨.bl b, H, I.kept (t' := tk) fun _ _ z => z, rfl, q⟩
end
section
variable {Γ : Gm} {Ω : Om} {K : PySem.W.Frag} {te : TE} {ta : TA} {a D dd : Addr} {b : Bool} {fs : List (Str × As)} {j : Nat}
theorem all_cst {F : Hp} : ∀ {cs vs : List V}, All F (cs.map Cst) vs → vs = cs
  | [], [], _ => rfl
  | c :: cs, v :: vs, h => by
    have e : v = c := h.1
    rw [e, all_cst h.2]
  | [], _ :: _, h => h.elim
  | _ :: _, [], h => h.elim
theorem ev_isE {c : V} {cv : Value} {tc : TE} (he : Ev Γ Ω te (Rf a)) (h2 : Ev Γ Ω tc (Cst c)) (hc : ClsV c cv) (hk : PySem.W.kitOne K (.ref D) cv = some b) : Ev Γ Ω (tCB (rIsE1 K D a (.ref D) none) (tCons te (tCons tc tNil))) (B b) := fun Z F H σ c Q q =>
  he Z F H σ c _ fun x F1 H1 c1 s1 rx => h2 Z F1 H1 σ c1 _ fun y F2 H2 c2 s2 ry => by
    cases rx; cases ry
    exact ⟨_, _, b, rfl, ⟨rfl, .inl rfl⟩, fun u r => hc.eq r, hk, q _ F2 H2 c2 (s1.trans s2) rfl⟩
theorem ev_isED {c : V} {cv : Value} {tc : TE} (he : Ev Γ Ω te (Rf a)) (h2 : Ev Γ Ω tc (Cst c)) (hm : Ω[j]? = some (dd, oXd fs)) (hc : ClsV c cv) (hk : PySem.W.kitOne K (.ref D) cv = some b) : Ev Γ Ω (tCB (rIsE1 K D a (.ref D) (some dd)) (tCons te (tCons tc tNil))) (B b) := fun Z F H σ c Q q =>
  he Z F H σ c _ fun x F1 H1 c1 s1 rx => h2 Z F1 H1 σ c1 _ fun y F2 H2 c2 s2 ry => by
    cases rx; cases ry
    obtain ⟨_, o, h2, vs, e, hv⟩ := c2.own _ (List.mem_of_getElem? hm)
    subst e
    exact ⟨_, _, b, rfl, ⟨rfl, .inr ⟨dd, vs, rfl, h2⟩⟩, fun u r => hc.eq r, hk, q _ F2 H2 c2 (s1.trans s2) rfl⟩
theorem ev_isET {cs : List V} {ws : List Value} (he : Ev Γ Ω te (Rf a)) (h2 : EvA Γ Ω ta (cs.map Cst)) (hc : Paired ClsV cs ws) (hk : PySem.W.kitAny K (.ref D) ws = some b) (hl : cs.length ≤ 1000 := by decide) : Ev Γ Ω (tCB (rIsET K D a (.ref D) none) (tCons te (tCons (tTup ta) tNil))) (B b) := fun Z F H σ c Q q =>
  he Z F H σ c _ fun x F1 H1 c1 s1 rx => h2 Z F1 H1 σ c1 _ fun vs F2 H2 c2 s2 ry => by
    cases rx
    have ev := all_cst ry
    subst ev
    refine ⟨Nat.le_of_lt (small1000 hl), fun p hp => ?_⟩
    obtain ⟨e, s⟩ := Ext.new (o := .tup vs) c2.sub hp
    exact ⟨p, vs, ws, b, rfl, ⟨rfl, .inl rfl⟩, upd_same, hc, hk, q _ _ _ (c2.step e s) (s1.trans (s2.trans e)) rfl⟩
theorem ev_isETD {cs : List V} {ws : List Value} (he : Ev Γ Ω te (Rf a)) (h2 : EvA Γ Ω ta (cs.map Cst)) (hm : Ω[j]? = some (dd, oXd fs)) (hc : Paired ClsV cs ws) (hk : PySem.W.kitAny K (.ref D) ws = some b) (hl : cs.length ≤ 1000 := by decide) : Ev Γ Ω (tCB (rIsET K D a (.ref D) (some dd)) (tCons te (tCons (tTup ta) tNil))) (B b) := fun Z F H σ c Q q =>
  he Z F H σ c _ fun x F1 H1 c1 s1 rx => h2 Z F1 H1 σ c1 _ fun vs F2 H2 c2 s2 ry => by
    cases rx
    have ev := all_cst ry
    subst ev
    refine ⟨Nat.le_of_lt (small1000 hl), fun p hp => ?_⟩
    obtain ⟨e, s⟩ := Ext.new (o := .tup vs) c2.sub hp
    have c3 := c2.step e s
    obtain ⟨_, o, h2, us, e', hv⟩ := c3.own _ (List.mem_of_getElem? hm)
    subst e'
    exact ⟨p, vs, ws, b, rfl, ⟨rfl, .inr ⟨dd, us, rfl, h2⟩⟩, upd_same, hc, hk, q _ _ _ c3 (s1.trans (s2.trans e)) rfl⟩
/-- a tuple of three that takes none, .. -/
theorem kit2 {t c1 c2 : Value} (h1 : PySem.W.kitOne K t c1 = some false) (h2 : PySem.W.kitOne K t c2 = some false) : PySem.W.kitAny K t [c1, c2] = some false := kitAny_cons h1 (fun _ => kitAny_cons h2 (fun _ => rfl) (fun z => nomatch z)) (fun z => nomatch z)
theorem kit3 {t c1 c2 c3 : Value} (h1 : PySem.W.kitOne K t c1 = some false) (h2 : PySem.W.kitOne K t c2 = some false) (h3 : PySem.W.kitOne K t c3 = some false) : PySem.W.kitAny K t [c1, c2, c3] = some false := kitAny_cons h1 (fun _ => kit2 h2 h3) (fun z => nomatch z)
end
end Y
namespace Y
open PySem L2
section
variable {Z : Bs} {F H F' H' : Hp} {σ σ' : L2.St} {Γ Γ' : Gm} {Ω Ω' Ωr : Om} {K : PySem.W.Frag} {te ta tb tl : TE} {n : L2.St → Hp → Prop} {r : VK} {bk ct : L2.St → Hp → Prop} {i : Nat}
theorem dropX (h : te σ H (fun _ H' => n σ H')) : tDrop te ⟨n, r, bk, ct⟩ σ H := h
theorem asgX (h : te σ H (fun v H' => n (σ.set i (some v)) H')) : tAsg te (gName i) ⟨n, r, bk, ct⟩ σ H := h
theorem retX (h : te σ H r) : tRet te ⟨n, r, bk, ct⟩ σ H := h
/-- f(e, ..), a def that changes what it is handed -/
theorem cl_M {α : Type} {args : α → List As} {Oi Oo : α → Om} {pre : α → Prop} {res : α → As} {t : TA} {Q : VK} {E : XK} (a : α) (c : Ctx Z F H σ Γ Ω) (h : EvA Γ Ω t (args a)) (hs : Ω.Perm (Oi a ++ Ωr)) (hp : pre a)
    (hoo : (Oo a).map (·.1) = (Oi a).map (·.1)) (k : ∀ v F' H', Ctx Z F' H' σ Γ (Oo a ++ Ωr) → Same F F' → (res a).p F' v → Q v H') (hro : Z.ro = [] := by rfl) : tCall (CtM args Oi pre res Oo) [] E t σ H Q :=
  h Z F H σ c _ fun vs F1 H1 c1 s1 rs => by
    have cp := c1.perm hs
    refine ⟨a, F1, c1.sub, by rw [List.append_nil]; exact rs, cp.own.sub fun x hx => List.mem_append_left _ hx, ?_, hp, fun v F3 H3 e3 s3 rv ow => k v F3 H3 (cp.changed e3 s3 ow hoo hro) (s1.fe.trans e3.fe) rv⟩
    have nd := cp.nd
    rw [List.map_append, List.nodup_append] at nd
    exact nd.1
end
end Y
namespace Y
open PySem L2
section
variable {Z : Bs} {F H F' H' : Hp} {σ σ' : L2.St} {Γ Γ' : Gm} {Ω Ω' Ωr : Om} {K : PySem.W.Frag} {te ta tb tl : TE} {n : L2.St → Hp → Prop} {r : VK} {bk ct : L2.St → Hp → Prop}
theorem src_rp {ta : TA} {i j s : Int} {n : Nat} (e : EvA Γ Ω ta [I i, I j, I s]) (h : RgC i j s n) : Src Γ Ω (iRng3 ta) (List.range n) (fun k => I (i + (k : Int) * s)) := fun Z F H σ c R q => e Z F H σ c _ fun vs F1 H1 c1 s1 rv => by
  match vs, rv.length with
  | [v, w, u], _ =>
    obtain ⟨ev, ew, eu, _⟩ := rv
    cases ev; cases ew; cases eu
    refine ⟨i, j, s, n, rfl, h, q _ F1 H1 c1 s1 fun Z' F2 H2 σ2 Γ2 Ω2 c2 s2 => ?_⟩
    refine ⟨by rw [List.length_range]; exact Nat.le_refl _, fun k x hx => ?_⟩
    obtain ⟨hi, ei⟩ := List.getElem?_eq_some_iff.mp hx
    rw [List.length_range] at hi
    rw [List.getElem_range] at ei
    subst ei
    refine ⟨hi, fun v H3 hy => ?_⟩
    obtain ⟨e1, e2⟩ := hy
    subst e1 e2
    exact ⟨F2, Ext.refl _ _ _, c2.sub, rfl⟩
theorem rg3 : ∀ h : _root_.Fin 64, Builtin.Range.small 0 (h.val : Int) 3 = true ∧ Builtin.Range.rangeSize 0 (h.val : Int) 3 = (((h.val + 2) / 3 : Nat) : Int) := by decide +kernel
theorem gcd_turnA (x y : Int) : Int.gcd y (x % y) = Int.gcd x y := by
  rw [Int.emod_def, Int.gcd_comm x y]
  simp
theorem atI_three (a b c z : Int) : atI [I a, I b, I c] (z % 3) = some (I (if z % 3 = 0 then a else if z % 3 = 1 then b else c)) := by
  have h : z % 3 = 0 ∨ z % 3 = 1 ∨ z % 3 = 2 := by omega
  rcases h with h | h | h <;> rw [h] <;> rfl
theorem atI_four (a b c d z : Int) : atI [I a, I b, I c, I d] (z % 4) = some (I (if z % 4 = 0 then a else if z % 4 = 1 then b else if z % 4 = 2 then c else d)) := by
  have h : z % 4 = 0 ∨ z % 4 = 1 ∨ z % 4 = 2 ∨ z % 4 = 3 := by omega
  rcases h with h | h | h | h <;> rw [h] <;> rfl
end
end Y
namespace Y
open PySem L2
section
variable {Z : Bs} {F H F' H' : Hp} {σ σ' : L2.St} {Γ Γ' : Gm} {Ω Ω' Ωr : Om} {K : PySem.W.Frag} {te ta tb tl : TE} {n : L2.St → Hp → Prop} {r : VK} {bk ct : L2.St → Hp → Prop} {t1 t2 : TS}
/-- if not f(..): .., f a def that changes what it is handed and answers True -/
theorem st_ifNM {α : Type} {args : α → List As} {Oi Oo : α → Om} {pre : α → Prop} {res : α → As} {t : TA} {E : XK} (a : α) (c : Ctx Z F H σ Γ Ω) (h : EvA Γ Ω t (args a)) (hs : Ω.Perm (Oi a ++ Ωr)) (hp : pre a)
    (hoo : (Oo a).map (·.1) = (Oi a).map (·.1)) (hres : res a = B true) (k : ∀ F' H', Ctx Z F' H' σ Γ (Oo a ++ Ωr) → t2 ⟨n, r, bk, ct⟩ σ H') (hro : Z.ro = [] := by rfl) : tIfS (tNot (tB (tCall (CtM args Oi pre res Oo) [] E t))) t1 t2 ⟨n, r, bk, ct⟩ σ H :=
  cl_M a c h hs hp hoo (fun v F' H' c _ rv => ⟨true, (by rw [hres] at rv; exact rv), iteF (k F' H' c)⟩) hro
theorem ev_isNN (ha : Ev Γ Ω ta Nn) : Ev Γ Ω (tOp (fun x y H Q => y = .non ∧ Q (.bl (decide (x = .non))) H) ta (tC .non)) (B true) := ev_isNO (α := Unit) (R := fun _ => B true) (o := none) (fun _ => nev_c (fun z => nomatch z)) ha
theorem num_of {r : Rat} {t b : Int} (hb : b ≠ 0) (h : r * (b : Rat) = (t : Rat)) : r.num * b = t * r.den := by
  have hb' : (b : Rat) ≠ 0 := by exact_mod_cast hb
  have e : r = Rat.divInt t b := by
    rw [Rat.divInt_eq_div, ← h]
    grind
  have := r_cross (t := t) hb
  rw [← e] at this
  exact this
end
end Y
namespace Y
open PySem L2
section
variable {Z : Bs} {F H F' H' : Hp} {σ σ' : L2.St} {Γ Γ' : Gm} {Ω Ω' Ωr : Om} {K : PySem.W.Frag} {te ta ti tl : TE} {n : L2.St → Hp → Prop} {r : VK} {bk ct : L2.St → Hp → Prop} {R : As} {Rs : List As} {p : Addr} {j : Nat}
def rInsert : V → List V → Hp → VK → Prop := fun x vs H Q => ∃ (l : Addr) (xs : List V) (i : Int) (y : V), x = .ref l ∧ vs = [.int i, y] ∧ H l = some (.lst xs) ∧ xs.length < sizeLine ∧ 0 ≤ i ∧ i < 2 ^ 63 ∧
    Q .non (upd H l (.lst (xs.take i.toNat ++ [y] ++ xs.drop i.toNat)))
/-- x.insert(i, e), x owned -/
theorem st_ins {i : Int} (c : Ctx Z F H σ Γ Ω) (h : Ev Γ Ω ta (Rf p)) (hm : Ω[j]? = some (p, oL Rs)) (ei : Ev Γ Ω ti (I i)) (e : Ev Γ Ω te R) (hl : Rs.length ≤ 100000) (h0 : 0 ≤ i) (h1 : i < 2 ^ 63) (k : ∀ F' H', Ctx Z F' H' σ Γ (Ω.set j (p, oL (Rs.take i.toNat ++ [R] ++ Rs.drop i.toNat))) → n σ H') (hro : Z.ro = [] := by rfl) :
    tDrop (tBM K "list" rInsert ta (tCons ti (tCons te tNil))) ⟨n, r, bk, ct⟩ σ H :=
  h Z F H σ c _ fun v F1 H1 c1 s1 rv => by
    cases rv
    obtain ⟨_, o, h2, xs, eo, hx⟩ := c1.own _ (List.mem_of_getElem? hm)
    refine ⟨.inl ⟨rfl, _, SqL.of (by rw [h2, eo])⟩, ?_⟩
    refine ei Z F1 H1 σ c1 _ fun y F2 H2 c2 s2 ry => ?_
    cases ry
    refine e Z F2 H2 σ c2 _ fun y F3 H3 c3 s3 ry => ?_
    obtain ⟨_, o, h2, xs, eo, hx⟩ := c3.own _ (List.mem_of_getElem? hm)
    refine ⟨p, xs, i, y, rfl, rfl, by rw [h2, eo], ?_, h0, h1, ?_⟩
    · rw [hx.length]
      exact Nat.lt_of_le_of_lt hl (by decide)
    · have hone : All F3 [R] [y] := ⟨ry, trivial⟩
      exact k F3 _ (c3.chg hm ⟨_, rfl, ((hx.take _).app hone).app (hx.drop _)⟩ (c3.wr hm hro))
/-- x.clear(), x owned -/
theorem st_clear (c : Ctx Z F H σ Γ Ω) (h : Ev Γ Ω ta (Rf p)) (hm : Ω[j]? = some (p, oL Rs)) (k : ∀ F' H', Ctx Z F' H' σ Γ (Ω.set j (p, oL [])) → n σ H') (hro : Z.ro = [] := by rfl) :
    tDrop (tBM0 K "list" rClear ta) ⟨n, r, bk, ct⟩ σ H :=
  h Z F H σ c _ fun v F1 H1 c1 s1 rv => by
    cases rv
    obtain ⟨_, o, h2, xs, eo, hx⟩ := c1.own _ (List.mem_of_getElem? hm)
    exact ⟨.inl ⟨rfl, _, SqL.of (by rw [h2, eo])⟩, p, xs, rfl, rfl, by rw [h2, eo], k F1 _ (c1.chg hm ⟨_, rfl, trivial⟩ (c1.wr hm hro))⟩
theorem kd_l2 {α β : Type} {f : α → As} {d : α → PyData} {k : Nat} {g : β → As} {e : β → PyData} {m : Nat} (h : Kd K f d k) (h2 : Kd K g e m) : Kd K (fun p : α × β => Ls K [f p.1, g p.2]) (fun p => .list [d p.1, e p.2]) (max k m + 1) :=
  ⟨fun p => isd_lst ⟨h.is _, h2.is _, trivial⟩, fun p => gd_list fun d' hd => by
    rcases List.mem_cons.mp hd with z | hd
    · subst z; exact ⟨(h.gd _).1, Nat.le_trans (h.gd _).2 (Nat.le_max_left _ _)⟩
    · rcases List.mem_cons.mp hd with z | hd
      · subst z; exact ⟨(h2.gd _).1, Nat.le_trans (h2.gd _).2 (Nat.le_max_right _ _)⟩
      · exact absurd hd List.not_mem_nil, fun x y => by
    obtain ⟨a, b⟩ := x
    obtain ⟨a', b'⟩ := y
    have e1 := h.eq a a'
    have e2 := h2.eq b b'
    simp only [PyData.eqv, PyData.eqvAll, Bool.and_true, Prod.mk.injEq]
    rw [Bool.and_eq_true, e1, e2]⟩
end
end Y
namespace Y
open PySem L2
section
variable {Γ : Gm} {Ω : Om} {K : PySem.W.Frag} {te : TE}
theorem eo_lcA {α : Type} {wi : TI} {xs : List α} {f : α → As} {g : TG} {vs : List Nat} (G' : α → Gm) (res : α → As) {ws : List Nat} (e : Src Γ Ω wi xs f) (hg : ∀ x, Gt (wipeG Γ vs) (f x) g (G' x) ws) (hw : ∀ i ∈ ws, i ∈ vs)
    (he : ∀ x ∈ xs, Ev (G' x) Ω te (res x)) (hlen : xs.length ≤ 100000) : EvNw Γ Ω (tLc wi g tYes te vs) (oL (xs.map res)) := by
  have z := eo_lc (te := te) (tt := tYes) G' (fun _ => true) res e hg hw (fun _ _ => et_yes) (fun x hx _ => he x hx) hlen
  rw [List.filter_eq_self.mpr (fun _ _ => rfl)] at z
  exact z
end
end Y
namespace Y
open PySem L2
section
variable {Z : Bs} {F H F' H' : Hp} {σ σ' : L2.St} {Γ Γ' : Gm} {Ω Ω' Ωr : Om} {K : PySem.W.Frag} {te ta ti tl : TE} {tt : TT} {R : As} {Rs : List As} {p : Addr} {i j : Nat} {b : Bool}
theorem set_same {σ : L2.St} {v : V} (e1 : σ[i]? = some (some v)) : σ.set i (some v) = σ := by
  apply List.ext_getElem?
  intro k
  rw [List.getElem?_set]
  split
  · rename_i hk
    subst hk
    split
    · exact e1.symm
    · rename_i hk
      rw [List.getElem?_eq_none (by omega)]
  · rfl
/-- an owned list in a slot, frozen from here on -/
theorem Ctx.frzS (c : Ctx Z F H σ Γ Ω) (hi : Γ[i]? = some (some (Rf p))) (hm : Ω[j]? = some (p, oL Rs)) (hz : Z.ft = []) (hro : Z.ro = [] := by rfl) : ∃ F', Same F F' ∧ Ctx Z F' H σ (Γ.set i (some (Ls K Rs))) (Ω.eraseIdx j) := by
  obtain ⟨F', s, c', q⟩ := c.frz (K := K) hm rdL hz hro
  obtain ⟨v, e1, e2⟩ := c.sat.get hi
  have e2 : v = .ref p := e2
  subst e2
  have z := c'.set i q
  rw [set_same e1] at z
  exact ⟨F', s, z⟩
theorem et_peek (hm : Ω[j]? = some (p, oL Rs)) (hi : Γ[i]? = some (some (Rf p))) (h : EvT (Γ.set i (some (Ls K Rs))) (Ω.eraseIdx j) tt b) : EvT Γ Ω tt b := fun Z F H σ c Q q =>
  ev_peek (K := K) (te := fun σ H Q => tt σ H (fun b H' => Q (.bl b) H')) (w := .bl b) hm hi (fun Z F H σ c Q q => h Z F H σ c _ (fun F' H' c' e => q _ F' H' c' e rfl)) Z F H σ c (fun v H' => match v with | .bl b' => Q b' H' | _ => False) (fun v F' H' c' e rv => by
    cases rv
    exact q F' H' c' e)
end
end Y

namespace L2
open PySem PySem.Spec PyProof.Rows
/-! ## zip of three lists -/
def Itz3 (K : PySem.W.Frag) (a b c : Addr) : It :=
  ⟨fun i H => ∃ (xs ys us : List V) (x y u : V), SqL K H a xs ∧ SqL K H b ys ∧ SqL K H c us ∧ xs[i]? = some x ∧ ys[i]? = some y ∧ us[i]? = some u,
    fun i H v H' => ∃ T x y u, v = .ref T ∧ H T = none ∧ H' = upd H T (.tup [x, y, u]) ∧ (∀ xs, SqL K H a xs → xs[i]? = some x) ∧ (∀ ys, SqL K H b ys → ys[i]? = some y) ∧ ∀ us, SqL K H c us → us[i]? = some u,
    fun i H => ∃ xs ys us : List V, SqL K H a xs ∧ SqL K H b ys ∧ SqL K H c us ∧ i = min (min xs.length ys.length) us.length⟩
theorem turn_zip3 {P : Program} {w : World} {K : PySem.W.Frag} {elts : List Expr} {kk : Nat} {tpos : Pos} {a b c z TI TO i1 i2 i3 : Addr} (S : ZipSep3 z TI TO i1 i2 i3 [i1, a] [i2, b] [i3, c]) :
    Turn P w K (.Tuple elts kk tpos) (Itz3 K a b c) [z, TI, TO, i1, i2, i3] z (fun i h => IsZip h z TI TO .none ∧ IsTupOf3 h TI (.ref i1) (.ref i2) (.ref i3) ∧ (∃ x y u, IsTupOf3 h TO x y u) ∧ h.IsListIter i1 a i ∧ h.IsListIter i2 b i ∧ h.IsListIter i3 c i) where
  mem := by simp
  obj := fun i h st d hd => by
    obtain ⟨hz, hTI, ⟨x, y, u, hTO⟩, ⟨o1, e1, _, d1⟩, ⟨o2, e2, _, d2⟩, ⟨o3, e3, _, d3⟩⟩ := st
    have e' : d = z ∨ d = TI ∨ d = TO ∨ d = i1 ∨ d = i2 ∨ d = i3 := by simpa using hd
    rcases e' with q | q | q | q | q | q
    · rw [q]; exact ⟨_, hz, fun v q => nomatch q⟩
    · rw [q]; exact ⟨_, hTI, fun v q => nomatch q⟩
    · rw [q]; exact ⟨_, hTO, fun v q => nomatch q⟩
    · rw [q]; exact ⟨o1, e1, fun v q => by rw [d1] at q; cases q⟩
    · rw [q]; exact ⟨o2, e2, fun v q => by rw [d2] at q; cases q⟩
    · rw [q]; exact ⟨o3, e3, fun v q => by rw [d3] at q; cases q⟩
  keep := fun i h h' st k => by
    obtain ⟨hz, hTI, ⟨x, y, u, hTO⟩, h1, h2, h3⟩ := st
    exact ⟨k z (by simp) _ hz, k TI (by simp) _ hTI, ⟨x, y, u, k TO (by simp) _ hTO⟩, h1.at fun o q => k i1 (by simp) o q, h2.at fun o q => k i2 (by simp) o q, h3.at fun o q => k i3 (by simp) o q⟩
  item := by
    intro X hP hw hK hc i pins s σ H E I hf st hg
    subst hP hw hK
    obtain ⟨hz, hTI, ⟨x0, y0, u0, hTO⟩, h1, h2, h3⟩ := st
    obtain ⟨xs, ys, us, x, y, u, hqx, hqy, hqu, hx, hy, hu⟩ := hg
    obtain ⟨its, rv, p, _⟩ := I.list hqx
    obtain ⟨its2, rv2, p2, _⟩ := I.list hqy
    obtain ⟨its3, rv3, p3, _⟩ := I.list hqu
    obtain ⟨v1, hv1, ru1⟩ := rv.get hx
    obtain ⟨v2, hv2, ru2⟩ := rv2.get hy
    obtain ⟨v3, hv3, ru3⟩ := rv3.get hu
    have hh : X.A.in1.handled = none := I.ok.hd hc
    have apart : ∀ {l it : Addr} {items : Array Value} {j : Nat}, s.heap.IsList l items → s.heap.IsListIter it l j → l ≠ it := fun hl hi e => by
      obtain ⟨o, e1, c1, _⟩ := hl
      obtain ⟨o2, e2, c2, _⟩ := hi
      rw [e, e2] at e1
      cases e1
      rw [c1] at c2
      exact absurd (Value.type.inj c2) (by decide)
    have n1 := apart p.isList h1
    have n2 := apart p2.isList h2
    have n3 := apart p3.isList h3
    have W := GoesN.zip3 (prog := X.prog) (w := X.w) (A := X.A) (elts := elts) (x1 := kk) (pos := tpos) S (Draws.list hh i1 a n1 its.toArray) (Draws.list hh i2 b n2 its2.toArray) (Draws.list hh i3 c n3 its3.toArray)
    have hi : i < min (min its.toArray.size its2.toArray.size) its3.toArray.size := by
      have := (List.getElem?_eq_some_iff.mp hv1).1
      have := (List.getElem?_eq_some_iff.mp hv2).1
      have := (List.getElem?_eq_some_iff.mp hv3).1
      simp
      omega
    refine W.goes i s _ _ hi ⟨hz, hTI, ⟨x0, y0, u0, hTO⟩, ⟨h1, p.isList⟩, ⟨h2, p2.isList⟩, ⟨h3, p3.isList⟩⟩ (fun v h' tk hY st' hk htk => ?_)
    obtain ⟨T, w1, w2, w3, ev, hT, e1, e2, e3, hTt⟩ := hY
    subst ev
    obtain ⟨z', TI', TO', ⟨h1', _⟩, ⟨h2', _⟩, ⟨h3', _⟩⟩ := st'
    have f1 : v1 = w1 := by
      have e : its.toArray[i]? = some v1 := by simpa using hv1
      rw [e] at e1; exact Option.some.inj e1
    have f2 : v2 = w2 := by
      have e : its2.toArray[i]? = some v2 := by simpa using hv2
      rw [e] at e2; exact Option.some.inj e2
    have f3 : v3 = w3 := by
      have e : its3.toArray[i]? = some v3 := by simpa using hv3
      rw [e] at e3; exact Option.some.inj e3
    subst f1 f2 f3
    have new : ObjOk X.prog X.w (upd H T (.tup [x, y, u])) h' T (.tup [x, y, u]) := by
      obtain ⟨o, ho, hcl, n, hd⟩ := hTt
      exact ⟨by show 3 ≤ sizeLine; decide, [v1, v2, v3], .cons ru1 (.cons ru2 (.cons ru3 .nil)), ⟨o, ho, hcl, n, hd⟩⟩
    have I1 : Inv X pins σ (upd H T (.tup [x, y, u])) { s with heap := h', toks := tk } :=
      I.turnedNew (t' := tk) (ch := [z, TO, i1, i2, i3]) hk (fun d hd => hf d (by simp at hd ⊢; rcases hd with q | q | q | q | q <;> simp [q])) hT new
    refine ⟨.ref T, _, I1, rfl, ⟨T, x, y, u, rfl, I.hok.fresh hT, rfl, fun l hl => by rw [I.list_inj hl hqx]; exact hx, fun l hl => by rw [I.list_inj hl hqy]; exact hy, fun l hl => by rw [I.list_inj hl hqu]; exact hu⟩, ⟨z', TI', TO', h1', h2', h3'⟩, fun d hd => ?_⟩
    have hlt : d < s.heap.objs.size := by
      have e' : d = z ∨ d = TI ∨ d = TO ∨ d = i1 ∨ d = i2 ∨ d = i3 := by simpa using hd
      rcases e' with q | q | q | q | q | q
      · rw [q]; exact Heap.lt_size hz
      · rw [q]; exact Heap.lt_size hTI
      · rw [q]; exact Heap.lt_size hTO
      · rw [q]; obtain ⟨_, e1, _⟩ := h1; exact Heap.lt_size e1
      · rw [q]; obtain ⟨_, e2, _⟩ := h2; exact Heap.lt_size e2
      · rw [q]; obtain ⟨_, e3, _⟩ := h3; exact Heap.lt_size e3
    rw [upd_ne (Nat.ne_of_lt (Nat.lt_of_lt_of_le hlt hT))]
    exact (hf d hd).1
  done := by
    intro X hP hw hK hc i pins s σ H E I hf st hg
    subst hP hw hK
    obtain ⟨hz, hTI, ⟨x0, y0, u0, hTO⟩, h1, h2, h3⟩ := st
    obtain ⟨xs, ys, us, hqx, hqy, hqu, hi⟩ := hg
    obtain ⟨its, rv, p, _⟩ := I.list hqx
    obtain ⟨its2, rv2, p2, _⟩ := I.list hqy
    obtain ⟨its3, rv3, p3, _⟩ := I.list hqu
    have hh : X.A.in1.handled = none := I.ok.hd hc
    have apart : ∀ {l it : Addr} {items : Array Value} {j : Nat}, s.heap.IsList l items → s.heap.IsListIter it l j → l ≠ it := fun hl hi e => by
      obtain ⟨o, e1, c1, _⟩ := hl
      obtain ⟨o2, e2, c2, _⟩ := hi
      rw [e, e2] at e1
      cases e1
      rw [c1] at c2
      exact absurd (Value.type.inj c2) (by decide)
    have W := GoesN.zip3 (prog := X.prog) (w := X.w) (A := X.A) (elts := elts) (x1 := kk) (pos := tpos) S (Draws.list hh i1 a (apart p.isList h1) its.toArray) (Draws.list hh i2 b (apart p2.isList h2) its2.toArray) (Draws.list hh i3 c (apart p3.isList h3) its3.toArray)
    have hi' : i = min (min its.toArray.size its2.toArray.size) its3.toArray.size := by
      have l1 := rv.length
      have l2 := rv2.length
      have l3 := rv3.length
      simp
      omega
    subst hi'
    refine W.stops s _ _ ⟨hz, hTI, ⟨x0, y0, u0, hTO⟩, ⟨h1, p.isList⟩, ⟨h2, p2.isList⟩, ⟨h3, p3.isList⟩⟩ (fun h' tk hk _ => ?_)
    exact I.turnedL (t' := tk) (ch := [z, TO, i1, i2, i3]) hk (fun d hd => hf d (by simp at hd ⊢; rcases hd with q | q | q | q | q <;> simp [q]))
  self := fun A i s Q E st h => wpAny_pyIter_zip st.1 h
def iZip3 (K : PySem.W.Frag) (ta : TA) : TI := fun σ H R => ta σ H fun vs H1 => ∃ a b c xs ys us, vs = [.ref a, .ref b, .ref c] ∧ SqL K H1 a xs ∧ SqL K H1 b ys ∧ SqL K H1 c us ∧ R (Itz3 K a b c) H1
theorem pi_zip3 {X : Cx} {e e2 e3 : Expr} {ta : TA} {p pos tpos : Pos} {elts : List Expr} {kk : Nat} (hg : Gl X "zip") (hm : X.mg "zip" = none) (ha : PA X [e, e2, e3] ta)
    (hs : starEach [e, e2, e3] X.env = (false, eval e X.env) :: starEach [e2, e3] X.env := by rfl) (hpl : (backTo pos (starEach [e2, e3] X.env)).any (·.1) = false := by rfl) :
    PI X (.Tuple elts kk tpos) (.Call (.Name "zip" p) [e, e2, e3] [] pos) (iZip3 X.K ta) := by
  refine ⟨fun pins s σ H R I h => ?_⟩
  refine Call_ (ld_blt I hg hm PyProof.Rows.boot_zip (PyProof.Rows.callWith_type1 (thn (ha.run pos pins s σ H _ I h) fun us s1 ⟨vs, H1, I1, r1, q1⟩ => ?_) hs hpl))
  obtain ⟨a, b, c, xs, ys, us', ex, hqx, hqy, hqu, q⟩ := q1
  subst ex
  cases r1 with
  | cons r rr =>
    cases rr with
    | cons r' rr =>
      cases rr with
      | cons r'' rr =>
        cases rr
        cases r
        cases r'
        cases r''
        obtain ⟨its, rv, p1, _⟩ := I1.list hqx
        obtain ⟨its2, rv2, p2, _⟩ := I1.list hqy
        obtain ⟨its3, rv3, p3, _⟩ := I1.list hqu
        have la : a < s1.heap.objs.size := p1.lt
        have lb : b < s1.heap.objs.size := p2.lt
        have lc : c < s1.heap.objs.size := p3.lt
        refine zip_begins3 (begins_list a its.toArray) (begins_list b its2.toArray) (begins_list c its3.toArray) p1.isList p2.isList p3.isList fun h' hz hTI hTO h1 h2 h3 hsz hk => wpAny_pyIter_zip hz ?_
        have I2 : Inv X pins σ H1 { s1 with heap := h' } := I1.kept (t' := s1.toks) hk
        refine ⟨s1.heap.objs.size + 5, [s1.heap.objs.size + 5, s1.heap.objs.size + 3, s1.heap.objs.size + 4, s1.heap.objs.size, s1.heap.objs.size + 1, s1.heap.objs.size + 2], _, _, H1, rfl, I2, turn_zip3 (a := a) (b := b) (c := c) (zip_sep3 (N := s1.heap.objs.size) (fun d hd => by rw [List.mem_singleton.mp hd]; exact la) (fun d hd => by rw [List.mem_singleton.mp hd]; exact lb) (fun d hd => by rw [List.mem_singleton.mp hd]; exact lc)), ⟨hz, hTI, ⟨_, _, _, hTO⟩, ⟨_, h1, rfl, rfl⟩, ⟨_, h2, rfl, rfl⟩, ⟨_, h3, rfl, rfl⟩⟩, fun d hdm => ?_, q⟩
        have hle : s1.heap.objs.size ≤ d := by
          have e' : d = s1.heap.objs.size + 5 ∨ d = s1.heap.objs.size + 3 ∨ d = s1.heap.objs.size + 4 ∨ d = s1.heap.objs.size ∨ d = s1.heap.objs.size + 1 ∨ d = s1.heap.objs.size + 2 := by simpa using hdm
          rcases e' with z | z | z | z | z | z
          · rw [z]; exact Nat.le_add_right _ _
          · rw [z]; exact Nat.le_add_right _ _
          · rw [z]; exact Nat.le_add_right _ _
          · rw [z]; exact Nat.le_refl _
          · rw [z]; exact Nat.le_add_right _ _
          · rw [z]; exact Nat.le_add_right _ _
        exact I1.fpOk hle (I1.hok.fresh hle)
end L2
namespace Y
open PySem L2
section
variable {Z : Bs} {F H F' H' : Hp} {σ σ' : L2.St} {Γ Γ' : Gm} {Ω Ω' : Om} {K : PySem.W.Frag} {te ta tb tl : TE} {α β γ : Type}
theorem All.three {F : Hp} {R R' R'' : As} : ∀ {vs : List V}, All F [R, R', R''] vs → ∃ v w u, vs = [v, w, u] ∧ R.p F v ∧ R'.p F w ∧ R''.p F u
  | [], h => h.elim
  | [_], h => h.2.elim
  | [_, _], h => h.2.2.elim
  | [v, w, u], h => ⟨v, w, u, rfl, h.1, h.2.1, h.2.2.1⟩
  | _ :: _ :: _ :: _ :: _, h => h.2.2.2.elim
theorem src_z {xs : List α} {ys : List β} {f : α → As} {g : β → As} {ta : TA} (e : EvA Γ Ω ta [Ls K (xs.map f), Ls K (ys.map g)]) : Src Γ Ω (iZip K ta) (xs.zip ys) (fun p => Tp K [f p.1, g p.2]) := fun Z F H σ c R q => e Z F H σ c _ fun vs F1 H1 c1 s1 rv => by
  obtain ⟨v, w, rfl, ⟨a, vs, ea, hs, hl⟩, ⟨b, ws, eb, hs', hl'⟩⟩ := rv.two
  subst ea eb
  have l1 : vs.length = xs.length := by rw [hl.length, List.length_map]
  have l2 : ws.length = ys.length := by rw [hl'.length, List.length_map]
  refine ⟨a, b, vs, ws, rfl, c1.sub.seq hs, c1.sub.seq hs', q _ F1 H1 c1 s1 fun Z' F2 H2 σ2 Γ2 Ω2 c2 s2 => ?_⟩
  have ha2 := c2.sub.seq (s2.seq hs)
  have hb2 := c2.sub.seq (s2.seq hs')
  refine ⟨⟨vs, ws, ha2, hb2, by rw [List.length_zip]; omega⟩, fun i x hx => ?_⟩
  obtain ⟨h1, h2⟩ := List.getElem?_zip_eq_some.mp hx
  obtain ⟨v1, e1, r1⟩ := hl.get (i := i) (R := f x.1) (by rw [List.getElem?_map, h1]; rfl)
  obtain ⟨w1, e2, r2⟩ := hl'.get (i := i) (R := g x.2) (by rw [List.getElem?_map, h2]; rfl)
  refine ⟨⟨vs, ws, v1, w1, ha2, hb2, e1, e2⟩, fun v H3 hy => ?_⟩
  obtain ⟨T, x', y', ev, hT, eH, k1, k2⟩ := hy
  subst ev eH
  have := k1 vs ha2
  rw [e1] at this
  cases this
  have := k2 ws hb2
  rw [e2] at this
  cases this
  obtain ⟨e3, s3⟩ := Ext.new (o := .tup [v1, w1]) c2.sub hT
  exact ⟨_, e3, s3, T, _, rfl, SqT.of upd_same, (f x.1).mono (s2.trans e3.fe) r1, (g x.2).mono (s2.trans e3.fe) r2, trivial⟩
theorem src_z3 {xs : List α} {ys : List β} {zs : List γ} {f : α → As} {g : β → As} {h : γ → As} {ta : TA} (e : EvA Γ Ω ta [Ls K (xs.map f), Ls K (ys.map g), Ls K (zs.map h)]) : Src Γ Ω (iZip3 K ta) (xs.zip (ys.zip zs)) (fun p => Tp K [f p.1, g p.2.1, h p.2.2]) := fun Z F H σ c R q => e Z F H σ c _ fun vs F1 H1 c1 s1 rv => by
  obtain ⟨v, w, u, rfl, ⟨a, vs, ea, hs, hl⟩, ⟨b, ws, eb, hs', hl'⟩, ⟨d, us, ed, hs'', hl''⟩⟩ := rv.three
  subst ea eb ed
  have l1 : vs.length = xs.length := by rw [hl.length, List.length_map]
  have l2 : ws.length = ys.length := by rw [hl'.length, List.length_map]
  have l3 : us.length = zs.length := by rw [hl''.length, List.length_map]
  refine ⟨a, b, d, vs, ws, us, rfl, c1.sub.seq hs, c1.sub.seq hs', c1.sub.seq hs'', q _ F1 H1 c1 s1 fun Z' F2 H2 σ2 Γ2 Ω2 c2 s2 => ?_⟩
  have ha2 := c2.sub.seq (s2.seq hs)
  have hb2 := c2.sub.seq (s2.seq hs')
  have hd2 := c2.sub.seq (s2.seq hs'')
  refine ⟨⟨vs, ws, us, ha2, hb2, hd2, by rw [List.length_zip, List.length_zip]; omega⟩, fun i x hx => ?_⟩
  obtain ⟨h1, h23⟩ := List.getElem?_zip_eq_some.mp hx
  obtain ⟨h2, h3⟩ := List.getElem?_zip_eq_some.mp h23
  obtain ⟨v1, e1, r1⟩ := hl.get (i := i) (R := f x.1) (by rw [List.getElem?_map, h1]; rfl)
  obtain ⟨w1, e2, r2⟩ := hl'.get (i := i) (R := g x.2.1) (by rw [List.getElem?_map, h2]; rfl)
  obtain ⟨u1, e3, r3⟩ := hl''.get (i := i) (R := h x.2.2) (by rw [List.getElem?_map, h3]; rfl)
  refine ⟨⟨vs, ws, us, v1, w1, u1, ha2, hb2, hd2, e1, e2, e3⟩, fun v H3 hy => ?_⟩
  obtain ⟨T, x', y', z', ev, hT, eH, k1, k2, k3⟩ := hy
  subst ev eH
  have := k1 vs ha2
  rw [e1] at this
  cases this
  have := k2 ws hb2
  rw [e2] at this
  cases this
  have := k3 us hd2
  rw [e3] at this
  cases this
  obtain ⟨e4, s4⟩ := Ext.new (o := .tup [v1, w1, u1]) c2.sub hT
  exact ⟨_, e4, s4, T, _, rfl, SqT.of upd_same, (f x.1).mono (s2.trans e4.fe) r1, (g x.2.1).mono (s2.trans e4.fe) r2, (h x.2.2).mono (s2.trans e4.fe) r3, trivial⟩
/-- a module's constant that is a tuple of two ints -/
def KtQ (K : PySem.W.Frag) (a : Addr) (x y : Int) : Prop := ∀ F : Hp, SqT K F a [.int x, .int y]
theorem ktq_mk {a : Addr} {dd : Option Addr} {sl : Array (Option Value)} {x y : Int} {t1 t2 : Tok} {n : Nat} (h : K.lookup a = some ⟨.type "tuple", dd, .seq #[.int x t1, .int y t2] n, sl⟩) : KtQ K a x y := fun F =>
  .inr ⟨_, #[.int x t1, .int y t2], n, h, rfl, rfl, by show 2 ≤ sizeLine; decide, .cons ⟨t1, rfl⟩ (.cons ⟨t2, rfl⟩ .nil)⟩
theorem ev_kt {a : Addr} {x y : Int} (h : KtQ K a x y) : Ev Γ Ω (tC (.ref a)) (Fr K (x, y)) := fun Z F H σ c Q q => q _ F H c (Ext.refl _ _ _) ⟨a, _, rfl, h F, rfl, rfl, trivial⟩
theorem ev_ktq {a : Addr} {x : Int} (h : KtQ K a x 1) : Ev Γ Ω (tC (.ref a)) (Fq K (x : Rat)) := ev_kt h
end
end Y
namespace Y
open PySem L2
theorem ev_kt0 {Γ : Gm} {Ω : Om} {K : PySem.W.Frag} {a : Addr} (h : KtQ K a 0 1) : Ev Γ Ω (tC (.ref a)) (Fq K 0) := ev_kt h
end Y

namespace Y
open PySem L2 PySem.Spec
open PyProof.Rows (envOfC)
/-! ## new things inside methods; contracts that hand out more than they took -/
section
variable {Z : Bs} {F H F' H' : Hp} {σ σ' : L2.St} {Γ Γ' : Gm} {Ω Ω' Ωr : Om} {K : PySem.W.Frag} {te ta tb tl tk : TE} {tt : TT} {R Rx Ry : As} {Rs Ss : List As} {n : L2.St → Hp → Prop} {r : VK} {bk ct : L2.St → Hp → Prop} {p C dx : Addr} {fs : List (Str × As)} {f m : Str} {j : Nat} {E : XK} {A : OA}
/-- p may be written -/
def Wr (Z : Bs) (p : Addr) : Prop := p ∈ Z.ft ∨ Z.H p = none
theorem Ctx.frzW (c : Ctx Z F H σ Γ Ω) (hm : Ω[j]? = some (p, A)) (hA : RdL A Rs) (hzp : Z.H p = none) : ∃ F', Same F F' ∧ Ctx Z F' H σ Γ (Ω.eraseIdx j) ∧ (Ls K Rs).p F' (.ref p) := by
  have hmem := List.mem_of_getElem? hm
  have hj : j < Ω.length := (List.getElem?_eq_some_iff.mp hm).1
  obtain ⟨hf, o0, h0, hA0⟩ := c.own _ hmem
  obtain ⟨xs, e, hl⟩ := hA.rd _ _ hA0
  dsimp only at hf h0
  have s : Same F (upd F p (.lst xs)) := fun a u q => by rw [upd_ne (ne_of_none q hf)]; exact q
  have other : ∀ x ∈ Ω.eraseIdx j, x ∈ Ω ∧ x.1 ≠ p := fun x hx => by
    have hx' := List.mem_of_mem_eraseIdx hx
    refine ⟨hx', fun z => ?_⟩
    obtain ⟨i, hi⟩ := List.getElem?_of_mem hx
    rw [List.getElem?_eraseIdx] at hi
    split at hi
    · have a1 : (Ω.map (·.1))[i]? = some p := by rw [List.getElem?_map, hi, ← z]; rfl
      have a2 : (Ω.map (·.1))[j]? = some p := by rw [List.getElem?_map, hm]; rfl
      have := nd_ix c.nd a1 a2
      omega
    · have a1 : (Ω.map (·.1))[i + 1]? = some p := by rw [List.getElem?_map, hi, ← z]; rfl
      have a2 : (Ω.map (·.1))[j]? = some p := by rw [List.getElem?_map, hm]; rfl
      have := nd_ix c.nd a1 a2
      omega
  refine ⟨upd F p (.lst xs), s, ⟨c.sat.mono s, fun a u q => ?_, fun x hx => ?_, ((List.eraseIdx_sublist Ω j).map _).nodup c.nd, fun x hx => c.loc x (other x hx).1, ⟨c.ext.fe.trans s, c.ext.fr, c.ext.dm, fun a h1 h2 => ?_⟩, c.pin.trans s⟩, p, xs, rfl, SqL.of upd_same, hl.mono s⟩
  · by_cases z : a = p
    · subst z
      rw [upd_same] at q
      rw [h0, e]
      exact q
    · rw [upd_ne z] at q
      exact c.sub a u q
  · obtain ⟨hx1, hx2⟩ := other x hx
    obtain ⟨h1, o', h2, h3⟩ := c.own x hx1
    exact ⟨by rw [upd_ne hx2]; exact h1, o', h2, x.2.mono s h3⟩
  · have z : a ≠ p := fun z => h1 (by rw [z]; exact hzp)
    rw [upd_ne z]
    exact c.ext.nw a h1 h2
/-- a list that stands still, made by the program -/
def Lh (Rs : List As) : As := ⟨fun F v => ∃ a xs, v = .ref a ∧ F a = some (.lst xs) ∧ All F Rs xs, fun s h => by
  obtain ⟨a, xs, e, h1, h2⟩ := h; exact ⟨a, xs, e, s _ _ h1, h2.mono s⟩⟩
theorem ev_lh (h : Ev Γ Ω te (Lh Rs)) : Ev Γ Ω te (Ls K Rs) := ev_cast h fun F v ⟨a, xs, e, h1, h2⟩ => ⟨a, xs, e, SqL.of h1, h2⟩
theorem Ctx.frzH (c : Ctx Z F H σ Γ Ω) (hm : Ω[j]? = some (p, A)) (hA : RdL A Rs) (hzp : Z.H p = none) : ∃ F', Same F F' ∧ Ctx Z F' H σ Γ (Ω.eraseIdx j) ∧ (Lh Rs).p F' (.ref p) := by
  have hmem := List.mem_of_getElem? hm
  have hj : j < Ω.length := (List.getElem?_eq_some_iff.mp hm).1
  obtain ⟨hf, o0, h0, hA0⟩ := c.own _ hmem
  obtain ⟨xs, e, hl⟩ := hA.rd _ _ hA0
  dsimp only at hf h0
  have s : Same F (upd F p (.lst xs)) := fun a u q => by rw [upd_ne (ne_of_none q hf)]; exact q
  have other : ∀ x ∈ Ω.eraseIdx j, x ∈ Ω ∧ x.1 ≠ p := fun x hx => by
    have hx' := List.mem_of_mem_eraseIdx hx
    refine ⟨hx', fun z => ?_⟩
    obtain ⟨i, hi⟩ := List.getElem?_of_mem hx
    rw [List.getElem?_eraseIdx] at hi
    split at hi
    · have a1 : (Ω.map (·.1))[i]? = some p := by rw [List.getElem?_map, hi, ← z]; rfl
      have a2 : (Ω.map (·.1))[j]? = some p := by rw [List.getElem?_map, hm]; rfl
      have := nd_ix c.nd a1 a2
      omega
    · have a1 : (Ω.map (·.1))[i + 1]? = some p := by rw [List.getElem?_map, hi, ← z]; rfl
      have a2 : (Ω.map (·.1))[j]? = some p := by rw [List.getElem?_map, hm]; rfl
      have := nd_ix c.nd a1 a2
      omega
  refine ⟨upd F p (.lst xs), s, ⟨c.sat.mono s, fun a u q => ?_, fun x hx => ?_, ((List.eraseIdx_sublist Ω j).map _).nodup c.nd, fun x hx => c.loc x (other x hx).1, ⟨c.ext.fe.trans s, c.ext.fr, c.ext.dm, fun a h1 h2 => ?_⟩, c.pin.trans s⟩, p, xs, rfl, upd_same, hl.mono s⟩
  · by_cases z : a = p
    · subst z
      rw [upd_same] at q
      rw [h0, e]
      exact q
    · rw [upd_ne z] at q
      exact c.sub a u q
  · obtain ⟨hx1, hx2⟩ := other x hx
    obtain ⟨h1, o', h2, h3⟩ := c.own x hx1
    exact ⟨by rw [upd_ne hx2]; exact h1, o', h2, x.2.mono s h3⟩
  · have z : a ≠ p := fun z => h1 (by rw [z]; exact hzp)
    rw [upd_ne z]
    exact c.ext.nw a h1 h2
/-- less (or other) things said of what is owned -/
theorem Ctx.recast {B : OA} (c : Ctx Z F H σ Γ Ω) (hm : Ω[j]? = some (p, A)) (h : ∀ o, A.p F o → B.p F o) : Ctx Z F H σ Γ (Ω.set j (p, B)) := by
  have hj : j < Ω.length := (List.getElem?_eq_some_iff.mp hm).1
  have em : (Ω.set j (p, B)).map (·.1) = Ω.map (·.1) := by
    rw [List.map_set]
    refine List.ext_getElem? fun i => ?_
    rw [List.getElem?_set]
    split
    · rename_i e
      subst e
      split
      · rw [List.getElem?_map, hm]; rfl
      · rename_i h1; rw [List.length_map] at h1; exact absurd hj h1
    · rfl
  have mem : ∀ x, x ∈ Ω.set j (p, B) → x ∈ Ω ∨ x = (p, B) := fun x hx => by
    rcases List.mem_or_eq_of_mem_set hx with z | z
    · exact .inl z
    · exact .inr z
  refine ⟨c.sat, c.sub, fun x hx => ?_, by rw [em]; exact c.nd, fun x hx => ?_, c.ext, c.pin⟩
  · rcases mem x hx with z | z
    · exact c.own x z
    · subst z
      obtain ⟨h1, o, h2, h3⟩ := c.own _ (List.mem_of_getElem? hm)
      exact ⟨h1, o, h2, h o h3⟩
  · rcases mem x hx with z | z
    · exact c.loc x z
    · subst z
      exact c.loc (p, A) (List.mem_of_getElem? hm)
theorem st_nilW {i : Nat} (c : Ctx Z F H σ Γ Ω) (k : ∀ p F' H' σ', Ctx Z F' H' σ' (Γ.set i (some (Rf p))) ((p, oL []) :: Ω) → Same F F' → Z.H p = none → n σ' H') : tAsg (tLst tNil) (gName i) ⟨n, r, bk, ct⟩ σ H :=
  ⟨Nat.zero_le _, fun p hp => k p F _ _ ((c.grow (A := oL []) hp ⟨[], rfl, trivial⟩).set i rfl) (Same.refl _) (c.ext.dm _ hp)⟩
theorem st_appW (c : Ctx Z F H σ Γ Ω) (h : Ev Γ Ω ta (Rf p)) (hm : Ω[j]? = some (p, oL Rs)) (e : Ev Γ Ω te R) (hl : Rs.length ≤ 100000) (k : ∀ F' H', Ctx Z F' H' σ Γ (Ω.set j (p, oL (Rs ++ [R]))) → Same F F' → n σ H') (hw : Wr Z p) :
    tDrop (tBM K "list" rAppend ta (tCons te tNil)) ⟨n, r, bk, ct⟩ σ H :=
  h Z F H σ c _ fun v F1 H1 c1 s1 rv => by
    cases rv
    obtain ⟨_, o, h2, xs, eo, hx⟩ := c1.own _ (List.mem_of_getElem? hm)
    refine ⟨.inl ⟨rfl, _, SqL.of (by rw [h2, eo])⟩, ?_⟩
    refine e Z F1 H1 σ c1 _ fun y F2 H2 c2 s2 ry => ?_
    obtain ⟨_, o, h2, xs, eo, hx⟩ := c2.own _ (List.mem_of_getElem? hm)
    refine ⟨p, xs, y, rfl, rfl, by rw [h2, eo], ?_, ?_⟩
    · rw [hx.length]
      exact Nat.lt_of_le_of_lt hl (by decide)
    · exact k F2 _ (c2.chg hm ⟨_, rfl, hx.app ⟨ry, trivial⟩⟩ hw) (s1.trans s2).fe
theorem st_retLW (c : Ctx Z F H σ Γ Ω) (h : Ev Γ Ω te (Rf p)) (hm : Ω[j]? = some (p, A)) (hA : RdL A Rs) (k : ∀ v F' H', Ctx Z F' H' σ Γ (Ω.eraseIdx j) → Same F F' → (Ls K Rs).p F' v → r v H') (hzp : Z.H p = none) : tRet te ⟨n, r, bk, ct⟩ σ H :=
  h Z F H σ c _ fun v F1 H1 c1 s1 rv => by
    cases rv
    obtain ⟨F2, s2, c2, q⟩ := c1.frzW (K := K) hm hA hzp
    exact k _ F2 H1 c2 (s1.fe.trans s2) q
theorem st_retLH (c : Ctx Z F H σ Γ Ω) (h : Ev Γ Ω te (Rf p)) (hm : Ω[j]? = some (p, A)) (hA : RdL A Rs) (k : ∀ v F' H', Ctx Z F' H' σ Γ (Ω.eraseIdx j) → Same F F' → (Lh Rs).p F' v → r v H') (hzp : Z.H p = none) : tRet te ⟨n, r, bk, ct⟩ σ H :=
  h Z F H σ c _ fun v F1 H1 c1 s1 rv => by
    cases rv
    obtain ⟨F2, s2, c2, q⟩ := c1.frzH hm hA hzp
    exact k _ F2 H1 c2 (s1.fe.trans s2) q
theorem st_fldW (c : Ctx Z F H σ Γ Ω) (e : Ev Γ Ω te R) (ha : Ev Γ Ω ta (Rf p)) (hm : Ω[j]? = some (p, oI C dx fs)) (hc : Cls K C) (hn : NoAttr K C f) (hl : fs.length < 1000) (k : ∀ F' H', Ctx Z F' H' σ Γ (Ω.set j (p, oI C dx (putA f R fs))) → Same F F' → n σ H') (hw : Wr Z p) :
    sFld K ta te f ⟨n, r, bk, ct⟩ σ H := e Z F H σ c _ fun y F1 H1 c1 s1 ry => ha Z F1 H1 σ c1 _ fun x F2 H2 c2 s2 rx => by
  cases rx
  obtain ⟨_, o, h2, vs, eo, ha⟩ := c2.own _ (List.mem_of_getElem? hm)
  subst eo
  refine ⟨p, C, dx, vs, rfl, h2, hc, hn, by rw [ha.length]; exact hl, ?_⟩
  exact k F2 _ (c2.chg hm ⟨_, rfl, ha.put (R.mono s2.fe ry)⟩ hw) (s1.trans s2).fe
/-- o.f = something new -/
theorem st_fldO (c : Ctx Z F H σ Γ Ω) (e : EvNw Γ Ω te A) (ha : ∀ q, Ev Γ ((q, A) :: Ω) ta (Rf p)) (hm : Ω[j]? = some (p, oI C dx fs)) (hc : Cls K C) (hn : NoAttr K C f) (hl : fs.length < 1000) (k : ∀ q F' H', Ctx Z F' H' σ Γ ((q, A) :: Ω.set j (p, oI C dx (putA f (Rf q) fs))) → Same F F' → Z.H q = none → n σ H') (hw : Wr Z p) :
    sFld K ta te f ⟨n, r, bk, ct⟩ σ H := e Z F H σ c _ fun q F1 H1 c1 s1 hq => ha q Z F1 H1 σ c1 _ fun x F2 H2 c2 s2 rx => by
  cases rx
  have hm2 : ((q, A) :: Ω)[j + 1]? = some (p, oI C dx fs) := hm
  obtain ⟨_, o, h2, vs, eo, ha⟩ := c2.own _ (List.mem_of_getElem? hm2)
  subst eo
  refine ⟨p, C, dx, vs, rfl, h2, hc, hn, by rw [ha.length]; exact hl, ?_⟩
  exact k q F2 _ (c2.chg hm2 ⟨_, rfl, ha.put rfl⟩ hw) (s1.trans s2).fe (c.ext.dm _ hq)
/-- behind a call that changes what it owns, and may hand out more -/
theorem Ctx.changedG {Ωi Ωo : Om} (c : Ctx Z F H σ Γ (Ωi ++ Ωr)) (e : Ext (Ωi.map (·.1)) F H F' H') (s : Same F' H') (o : Own F' H' Ωo) (nd : (Ωo.map (·.1)).Nodup) (hn : ∀ x ∈ Ωo.map (·.1), x ∈ Ωi.map (·.1) ∨ H x = none) (hw : ∀ x ∈ Ωi.map (·.1), Wr Z x) : Ctx Z F' H' σ Γ (Ωo ++ Ωr) := by
  have nd0 := c.nd
  rw [List.map_append, List.nodup_append] at nd0
  have dis : ∀ x, x ∈ Ωr → x.1 ∉ Ωi.map (·.1) := fun x hx hi => nd0.2.2 _ hi _ (List.mem_map.mpr ⟨x, hx, rfl⟩) rfl
  refine ⟨c.sat.mono e.fe, s, fun x hx => ?_, ?_, fun x hx => ?_, c.ext.transL e hw, c.pin.trans e.fe⟩
  · rcases List.mem_append.mp hx with hx | hx
    · exact o x hx
    · obtain ⟨h1, o', h2, h3⟩ := c.own x (List.mem_append_right _ hx)
      exact ⟨e.nw _ (by rw [h2]; exact fun z => by cases z) h1, o', e.fr _ _ h2 (dis x hx), x.2.mono e.fe h3⟩
  · rw [List.map_append, List.nodup_append]
    refine ⟨nd, nd0.2.1, fun a ha b hb z => ?_⟩
    subst z
    obtain ⟨x, hx, rfl⟩ := List.mem_map.mp hb
    rcases hn _ ha with l | l
    · exact dis x hx l
    · obtain ⟨_, o', h2, _⟩ := c.own x (List.mem_append_right _ hx)
      rw [l] at h2; cases h2
  · rcases List.mem_append.mp hx with hx | hx
    · rcases hn _ (List.mem_map.mpr ⟨x, hx, rfl⟩) with l | l
      · rcases hw _ l with l | l
        · exact .inl l
        · exact .inr (.inl l)
      · exact .inr (.inl (c.ext.dm _ l))
    · exact c.loc x (List.mem_append_right _ hx)
/-- a contract that changes, and may hand out new things as well -/
def CtG {α β : Type} (args : α → List As) (Oi : α → Om) (pre : α → Prop) (post : α → β → Prop) (res : α → β → As) (Oo : α → β → Om) : Sp := fun vs H Q _ =>
  ∃ a F, Same F H ∧ All F (args a) vs ∧ Own F H (Oi a) ∧ ((Oi a).map (·.1)).Nodup ∧ pre a ∧ ∀ b v F' H', post a b → Ext ((Oi a).map (·.1)) F H F' H' → Same F' H' → (res a b).p F' v → Own F' H' (Oo a b) → ((Oo a b).map (·.1)).Nodup → (∀ x ∈ (Oo a b).map (·.1), x ∈ (Oi a).map (·.1) ∨ H x = none) → Q v H'
theorem CtG.len {α β : Type} {args : α → List As} {Oi : α → Om} {pre : α → Prop} {post : α → β → Prop} {res : α → β → As} {Oo : α → β → Om} {n : Nat} (h : ∀ a, (args a).length = n) : ∀ vs H Q E, CtG args Oi pre post res Oo vs H Q E → vs.length = n := by
  rintro vs H Q E ⟨a, F, _, ha, _⟩
  rw [ha.length, h]
/-- an expression that changes what is owned -/
def EvM (Z : Bs) (Γ : Gm) (Ω : Om) (te : TE) (R : As) (Ω' : Om) : Prop := ∀ (F H : Hp) (σ : L2.St), Ctx Z F H σ Γ Ω → ∀ Q : VK, (∀ v F' H', Ctx Z F' H' σ Γ Ω' → Same F F' → R.p F' v → Q v H') → te σ H Q
theorem em_meth {α : Type} {args : α → List As} {Oi Oo : α → Om} {pre : α → Prop} {res : α → As} {t : TA} (a : α) (ho : Ev Γ Ω ta (Rf p)) (hm : Ω[j]? = some (p, oI C dx fs)) (hn : fs.lookup m = none) (h : EvA Γ Ω t Rs) (ha : args a = Rf p :: Rs) (hs : Ω.Perm (Oi a ++ Ωr)) (hp : pre a)
    (hoo : (Oo a).map (·.1) = (Oi a).map (·.1)) (hw : ∀ x ∈ (Oi a).map (·.1), Wr Z x) : EvM Z Γ Ω (tMeth C m (CtM args Oi pre res Oo) [] E ta t) (res a) (Oo a ++ Ωr) := fun F H σ c Q k =>
  ho Z F H σ c _ fun x F1 H1 c1 s1 rx => by
    cases rx
    obtain ⟨_, o, h2, vs, eo, hf⟩ := c1.own _ (List.mem_of_getElem? hm)
    subst eo
    refine ⟨p, dx, vs, rfl, h2, hf.none hn, h Z F1 H1 σ c1 _ fun ws F2 H2 c2 s2 rs => ?_⟩
    have cp := c2.perm hs
    have nd := cp.nd
    rw [List.map_append, List.nodup_append] at nd
    refine ⟨a, F2, c2.sub, ?_, cp.own.sub fun x hx => List.mem_append_left _ hx, nd.1, hp, fun v F3 H3 e3 s3 rv ow => k v F3 H3 (cp.changedG e3 s3 ow (by rw [hoo]; exact nd.1) (fun x hx => .inl (by rw [← hoo]; exact hx)) hw) ((s1.trans s2).fe.trans e3.fe) rv⟩
    rw [ha, List.append_nil]
    exact ⟨rfl, rs⟩
theorem em_set {i : Nat} (c : Ctx Z F H σ Γ Ω) (e : EvM Z Γ Ω te R Ω') (k : ∀ F' H' σ', Ctx Z F' H' σ' (Γ.set i (some R)) Ω' → Same F F' → n σ' H') : tAsg te (gName i) ⟨n, r, bk, ct⟩ σ H := e F H σ c _ fun v F1 H1 c1 s1 rv => k F1 H1 _ (c1.set i rv) s1
theorem em_asg {g : TG} {ws : List Nat} (c : Ctx Z F H σ Γ Ω) (e : EvM Z Γ Ω te R Ω') (hg : Gt Γ R g Γ' ws) (k : ∀ F' H' σ', Ctx Z F' H' σ' Γ' Ω' → Same F F' → n σ' H') : tAsg te g ⟨n, r, bk, ct⟩ σ H := e F H σ c _ fun v F1 H1 c1 s1 rv => hg Z F1 H1 σ v Ω' c1 rv _ fun σ' c2 _ => k F1 H1 σ' c2 s1
theorem em_drop (c : Ctx Z F H σ Γ Ω) (e : EvM Z Γ Ω te R Ω') (k : ∀ F' H', Ctx Z F' H' σ Γ Ω' → Same F F' → n σ H') : tDrop te ⟨n, r, bk, ct⟩ σ H := e F H σ c _ fun v F1 H1 c1 s1 rv => k F1 H1 c1 s1
theorem em_ret (c : Ctx Z F H σ Γ Ω) (e : EvM Z Γ Ω te R Ω') (k : ∀ v F' H', Ctx Z F' H' σ Γ Ω' → Same F F' → R.p F' v → r v H') : tRet te ⟨n, r, bk, ct⟩ σ H := e F H σ c _ k
/-- x.append(e), e changes what is owned (but not x) -/
theorem em_app {q : Addr} {j2 : Nat} (c : Ctx Z F H σ Γ Ω) (h : Ev Γ Ω ta (Rf q)) (hm : Ω[j]? = some (q, oL Rs)) (e : EvM Z Γ Ω te R Ω') (hm2 : Ω'[j2]? = some (q, oL Rs)) (hl : Rs.length ≤ 100000) (k : ∀ F' H', Ctx Z F' H' σ Γ (Ω'.set j2 (q, oL (Rs ++ [R]))) → Same F F' → n σ H') (hw : Wr Z q) :
    tDrop (tBM K "list" rAppend ta (tCons te tNil)) ⟨n, r, bk, ct⟩ σ H :=
  h Z F H σ c _ fun v F1 H1 c1 s1 rv => by
    cases rv
    obtain ⟨_, o, h2, xs, eo, hx⟩ := c1.own _ (List.mem_of_getElem? hm)
    refine ⟨.inl ⟨rfl, _, SqL.of (by rw [h2, eo])⟩, ?_⟩
    refine e F1 H1 σ c1 _ fun y F2 H2 c2 s2 ry => ?_
    obtain ⟨_, o, h2, xs, eo, hx⟩ := c2.own _ (List.mem_of_getElem? hm2)
    refine ⟨q, xs, y, rfl, rfl, by rw [h2, eo], ?_, ?_⟩
    · rw [hx.length]
      exact Nat.lt_of_le_of_lt hl (by decide)
    · exact k F2 _ (c2.chg hm2 ⟨_, rfl, hx.app ⟨ry, trivial⟩⟩ hw) (s1.fe.trans s2)
/-- x.extend(e), e changes what is owned (but not x) -/
theorem em_ext {q : Addr} {j2 : Nat} (c : Ctx Z F H σ Γ Ω) (h : Ev Γ Ω ta (Rf q)) (hm : Ω[j]? = some (q, oL Rs)) (e : EvM Z Γ Ω te (Lh Ss) Ω') (hm2 : Ω'[j2]? = some (q, oL Rs)) (hl : Rs.length + Ss.length ≤ 100000) (k : ∀ F' H', Ctx Z F' H' σ Γ (Ω'.set j2 (q, oL (Rs ++ Ss))) → Same F F' → n σ H') (hw : Wr Z q) :
    tDrop (tBM K "list" rExtend ta (tCons te tNil)) ⟨n, r, bk, ct⟩ σ H :=
  h Z F H σ c _ fun v F1 H1 c1 s1 rv => by
    cases rv
    obtain ⟨_, o, h2, xs, eo, hx⟩ := c1.own _ (List.mem_of_getElem? hm)
    refine ⟨.inl ⟨rfl, _, SqL.of (by rw [h2, eo])⟩, ?_⟩
    refine e F1 H1 σ c1 _ fun y F2 H2 c2 s2 ry => ?_
    obtain ⟨b, zs, ey, hb, hz⟩ := ry
    subst ey
    obtain ⟨_, o, h2, xs, eo, hx⟩ := c2.own _ (List.mem_of_getElem? hm2)
    refine ⟨q, b, xs, zs, rfl, rfl, by rw [h2, eo], c2.sub _ _ hb, ?_, ?_⟩
    · rw [hx.length, hz.length]
      exact Nat.le_trans hl (by decide)
    · exact k F2 _ (c2.chg hm2 ⟨_, rfl, hx.app hz⟩ hw) (s1.fe.trans s2)
/-- x + e, x owned, e changes what is owned (but not x); frozen -/
theorem em_cat {q : Addr} {j2 : Nat} (h : Ev Γ Ω ta (Rf q)) (hm2 : Ω'[j2]? = some (q, oL Rs)) (e : EvM Z Γ Ω tb (Lh Ss) Ω') (hl : Rs.length + Ss.length ≤ 100000) : EvM Z Γ Ω (tOp rCat ta tb) (Ls K (Rs ++ Ss)) Ω' := fun F H σ c Q k =>
  h Z F H σ c _ fun v F1 H1 c1 s1 rv => by
    cases rv
    refine e F1 H1 σ c1 _ fun y F2 H2 c2 s2 ry => ?_
    obtain ⟨b, zs, ey, hb, hz⟩ := ry
    subst ey
    obtain ⟨_, o, h2, xs, eo, hx⟩ := c2.own _ (List.mem_of_getElem? hm2)
    refine ⟨q, b, xs, zs, rfl, rfl, by rw [h2, eo], c2.sub _ _ hb, ?_, fun p hp => ?_⟩
    · rw [hx.length, hz.length]
      exact Nat.le_trans hl (by decide)
    · obtain ⟨e3, s3⟩ := Ext.new (o := .lst (xs ++ zs)) c2.sub hp
      exact k (.ref p) _ _ (c2.step e3 s3) (s1.fe.trans (s2.trans e3.fe)) ⟨p, xs ++ zs, rfl, SqL.of upd_same, (hx.app hz).mono e3.fe⟩
/-- x = C(e, ..): a new instance, and what it brought along -/
theorem st_makeG {α β : Type} {args : α → Addr → List As} {Oi : α × Addr × Addr → Om} {Oo : α × Addr × Addr → β → Om} {pre : α × Addr × Addr → Prop} {post : α × Addr × Addr → β → Prop} {res : α × Addr × Addr → β → As} {t : TA} {Q : VK} (a : α) (c : Ctx Z F H σ Γ Ω) (h : EvA Γ Ω t Rs) (ha : ∀ x, args a x = Rf x :: Rs) (hoi : ∀ x dx, Oi (a, x, dx) = [(x, oI C dx [])]) (hp : ∀ x dx, pre (a, x, dx)) (hr : ∀ x dx b F v, (res (a, x, dx) b).p F v → v = .non)
    (k : ∀ b x dx F' H', post (a, x, dx) b → Ctx Z F' H' σ Γ (Oo (a, x, dx) b ++ Ω) → Same F F' → (∀ y ∈ (Oo (a, x, dx) b).map (·.1), Z.H y = none) → Q (.ref x) H') : tMake C (CtG (fun b : α × Addr × Addr => args b.1 b.2.1) Oi pre post res Oo) [] E t σ H Q :=
  h Z F H σ c _ fun vs F1 H1 c1 s1 rs => by
    intro x dx hx hd hne
    have c2 := (c1.grow (p := dx) (o := .own x) (A := ⟨fun _ _ => True, fun _ h => h⟩) hd trivial).tail
    have hx2 : upd H1 dx (.own x) x = none := by rw [upd_ne (Ne.symm hne)]; exact hx
    have c3 := c2.grow (p := x) (o := .ins C dx []) (A := oI C dx []) hx2 ⟨[], rfl, trivial⟩
    have c3' : Ctx Z F1 (upd (upd H1 dx (.own x)) x (.ins C dx [])) σ Γ (Oi (a, x, dx) ++ Ω) := by rw [hoi]; exact c3
    have hzx : Z.H x = none := c1.ext.dm _ hx
    refine ⟨(a, x, dx), F1, c3.sub, ?_, c3'.own.sub fun y hy => List.mem_append_left _ hy, by rw [hoi]; simp, hp x dx, fun b v F3 H3 hb e3 s3 rv ow nd hn => ⟨hr x dx b _ _ rv, ?_⟩⟩
    · dsimp only
      rw [ha, List.append_nil]
      exact ⟨rfl, rs⟩
    · refine k b x dx F3 H3 hb (c3'.changedG e3 s3 ow nd hn (by rw [hoi]; intro y hy; rw [List.mem_singleton.mp hy]; exact .inr hzx)) (s1.fe.trans e3.fe) fun y hy => ?_
      rcases hn y hy with l | l
      · rw [hoi] at l; rw [List.mem_singleton.mp l]; exact hzx
      · exact c3.ext.dm _ l
/-- tests that change what is owned -/
def EvTM (Z : Bs) (Γ : Gm) (Ω : Om) (tt : TT) (b : Bool) (Ω' : Om) : Prop := ∀ (F H : Hp) (σ : L2.St), Ctx Z F H σ Γ Ω → ∀ Q : Bool → Hp → Prop, (∀ F' H', Ctx Z F' H' σ Γ Ω' → Same F F' → Q b H') → tt σ H Q
theorem em_op {r : R2} (ha : EvM Z Γ Ω ta Rx Ω') (hb : Ev Γ Ω' tb Ry) (hr : RV r Rx Ry R) : EvM Z Γ Ω (tOp r ta tb) R Ω' := fun F H σ c Q k =>
  ha F H σ c _ fun x F1 H1 c1 s1 rx => hb Z F1 H1 σ c1 _ fun y F2 H2 c2 s2 ry =>
    hr F2 H2 x y c2.sub (Rx.mono s2.fe rx) ry Q fun v F3 H3 e3 s3 rv => k v F3 H3 (c2.step e3 s3) (s1.trans (s2.fe.trans e3.fe)) rv
theorem em_is {R' : As} (h : EvM Z Γ Ω te R Ω') (e : R = R') : EvM Z Γ Ω te R' Ω' := e ▸ h
theorem em_of (h : Ev Γ Ω te R) : EvM Z Γ Ω te R Ω := fun F H σ c Q k => h Z F H σ c Q fun v F1 H1 c1 s1 rv => k v F1 H1 c1 s1.fe rv
theorem em_neK {α : Type} [DecidableEq α] {f : α → As} {d : α → PyData} {k : Nat} {x y : α} (h : Kd K f d k) (ha : EvM Z Γ Ω ta (f x) Ω') (hb : Ev Γ Ω' tb (f y)) (l : k ≤ 64 := by decide) : EvM Z Γ Ω (tOp (rNeD K) ta tb) (B (!decide (x = y))) Ω' :=
  em_is (em_op ha hb fun F H v w s rx ry Q q => ⟨d x, d y, (h.is x).dp F H v s rx, (h.is y).dp F H w s ry, (h.gd x).shaped l, (h.gd y).shaped l, q _ F H (Ext.refl _ _ _) s rfl⟩) (congrArg (fun b => B (!b)) (by rw [Bool.eq_iff_iff, h.eq, decide_eq_true_iff]))
theorem tm_test {b : Bool} (h : EvM Z Γ Ω te (B b) Ω') : EvTM Z Γ Ω (tTest te) b Ω' := fun F H σ c Q q => h F H σ c _ fun v F1 H1 c1 s1 r => ⟨b, r, q F1 H1 c1 s1⟩
theorem tm_B {b : Bool} (h : EvM Z Γ Ω te (B b) Ω') : EvTM Z Γ Ω (tB te) b Ω' := fun F H σ c Q q => h F H σ c _ fun v F1 H1 c1 s1 r => ⟨b, r, q F1 H1 c1 s1⟩
theorem tm_not {b : Bool} (h : EvTM Z Γ Ω tt b Ω') : EvTM Z Γ Ω (tNot tt) (!b) Ω' := fun F H σ c Q q => h F H σ c _ fun F1 H1 c1 s1 => q F1 H1 c1 s1
theorem tm_is {a b : Bool} (h : EvTM Z Γ Ω tt a Ω') (e : a = b) : EvTM Z Γ Ω tt b Ω' := e ▸ h
/-- a or b, a known to be False -/
theorem tm_or {tu : TT} {b : Bool} (h : EvT Γ Ω tt false) (h2 : EvTM Z Γ Ω tu b Ω') : EvTM Z Γ Ω (tOr tt tu) b Ω' := fun F H σ c Q q => h Z F H σ c _ fun F1 H1 c1 s1 => iteF (h2 F1 H1 σ c1 Q fun F2 H2 c2 s2 => q F2 H2 c2 (s1.fe.trans s2))
/-- a or b, a changes and is False -/
theorem tm_orM {tu : TT} {b : Bool} {Ω2 : Om} (h : EvTM Z Γ Ω tt false Ω') (h2 : EvTM Z Γ Ω' tu b Ω2) : EvTM Z Γ Ω (tOr tt tu) b Ω2 := fun F H σ c Q q => h F H σ c _ fun F1 H1 c1 s1 => iteF (h2 F1 H1 σ c1 Q fun F2 H2 c2 s2 => q F2 H2 c2 (s1.trans s2))
theorem tm_of {b : Bool} (h : EvT Γ Ω tt b) : EvTM Z Γ Ω tt b Ω := fun F H σ c Q q => h Z F H σ c Q fun F1 H1 c1 s1 => q F1 H1 c1 s1.fe
theorem tm_if {t1 t2 : TS} {b : Bool} (c : Ctx Z F H σ Γ Ω) (e : EvTM Z Γ Ω tt b Ω') (k1 : b = true → ∀ F' H', Ctx Z F' H' σ Γ Ω' → Same F F' → t1 ⟨n, r, bk, ct⟩ σ H') (k2 : b = false → ∀ F' H', Ctx Z F' H' σ Γ Ω' → Same F F' → t2 ⟨n, r, bk, ct⟩ σ H') : tIfS tt t1 t2 ⟨n, r, bk, ct⟩ σ H :=
  e F H σ c _ fun F1 H1 c1 s1 => by
    cases b with
    | true => exact iteT (k1 rfl F1 H1 c1 s1)
    | false => exact iteF (k2 rfl F1 H1 c1 s1)
/-- x = C(e, ..) -/
theorem st_makeGS {α β : Type} {i : Nat} {args : α → Addr → List As} {Oi : α × Addr × Addr → Om} {Oo : α × Addr × Addr → β → Om} {pre : α × Addr × Addr → Prop} {post : α × Addr × Addr → β → Prop} {res : α × Addr × Addr → β → As} {t : TA} (a : α) (c : Ctx Z F H σ Γ Ω) (h : EvA Γ Ω t Rs) (ha : ∀ x, args a x = Rf x :: Rs) (hoi : ∀ x dx, Oi (a, x, dx) = [(x, oI C dx [])]) (hp : ∀ x dx, pre (a, x, dx)) (hr : ∀ x dx b F v, (res (a, x, dx) b).p F v → v = .non)
    (k : ∀ b x dx F' H' σ', post (a, x, dx) b → Ctx Z F' H' σ' (Γ.set i (some (Rf x))) (Oo (a, x, dx) b ++ Ω) → Same F F' → (∀ y ∈ (Oo (a, x, dx) b).map (·.1), Z.H y = none) → n σ' H') : tAsg (tMake C (CtG (fun b : α × Addr × Addr => args b.1 b.2.1) Oi pre post res Oo) [] E t) (gName i) ⟨n, r, bk, ct⟩ σ H :=
  st_makeG a c h ha hoi hp hr fun b x dx F1 H1 hb c1 s1 hz => k b x dx F1 H1 _ hb (c1.set i rfl) s1 hz
end
theorem wr2 {Z : Bs} {p q : Addr} (h1 : Wr Z p) (h2 : Wr Z q) : ∀ x ∈ [p, q], Wr Z x := fun x hx => by
  rcases List.mem_cons.mp hx with z | z
  · rw [z]; exact h1
  · rw [List.mem_singleton.mp z]; exact h2
theorem wr1 {Z : Bs} {p : Addr} (h1 : Wr Z p) : ∀ x ∈ [p], Wr Z x := fun x hx => by
  rw [List.mem_singleton.mp hx]; exact h1
/-- for over a list that some family tells of -/
theorem st_forX {K : PySem.W.Frag} {Z : Bs} {F H : Hp} {σ : L2.St} {Γ : Gm} {Ω : Om} {tl : TE} {g : TG} {tb : TS} {D : Ends} {β : Type} {P : β → Prop} {Rb : β → As} (c : Ctx Z F H σ Γ Ω) (e : Ev Γ Ω tl (Xs P Rb)) (k : ∀ b v F' H', P b → Ctx Z F' H' σ Γ Ω → Same F F' → (Rb b).p F' v → tFor (iList K (fun _ H Q => Q v H)) g tb D σ H') : tFor (iList K tl) g tb D σ H :=
  e Z F H σ c _ fun v F1 H1 c1 s1 ⟨b, hb, rv⟩ => k b v F1 H1 hb c1 s1.fe rv
theorem st_forV {K : PySem.W.Frag} {Z : Bs} {F H : Hp} {σ : L2.St} {n : L2.St → Hp → Prop} {r : VK} {bk ct : L2.St → Hp → Prop} {ι α : Type} {v : V} {g : TG} {tb : TS} {xs : List α} {f : α → As} (G : ι → Gm) (G' : α → ι → Gm) (O : ι → Om) (P : Nat → ι → Prop) {ws : List Nat} (i0 : ι) (c : Ctx Z F H σ (G i0) (O i0)) (rv : (Ls K (xs.map f)).p F v) (p0 : P 0 i0)
    (hg : ∀ x i, Gt (G i) (f x) g (G' x i) ws)
    (body : ∀ k x i G1 F H σ (N : L2.St → Hp → Prop), xs[k]? = some x → P k i → Ctx (Z.pin G1) F H σ (G' x i) (O i) → (∀ j F' H' σ', P (k + 1) j → Ctx (Z.pin G1) F' H' σ' (G j) (O j) → N σ' H') → tb ⟨N, r, n, N⟩ σ H)
    (hd : ∀ i F H σ, P xs.length i → Ctx Z F H σ (G i) (O i) → n σ H) : tFor (iList K (fun _ H Q => Q v H)) g tb ⟨n, r, bk, ct⟩ σ H := by
  obtain ⟨a, ys, ea, hs, hl⟩ := rv
  have hlen : ys.length = xs.length := by rw [hl.length, List.length_map]
  refine ⟨a, ea, ⟨ys, c.sub.seq hs⟩, for_list (K := K) (a := a) (xs := ys) (fun k σ H => ∃ i F', P k i ∧ Ctx (Z.pin F) F' H σ (G i) (O i)) ⟨i0, F, p0, c.topin (Same.refl _)⟩ (fun k σ H _ ⟨i, F, _, cc⟩ => cc.sub.seq (cc.pin.seq hs)) ?_ ?_⟩
  · rintro k y σ H hy ⟨i, F', p, cc⟩
    have hk : k < xs.length := by rw [← hlen]; exact (List.getElem?_eq_some_iff.mp hy).1
    have hx : xs[k]? = some xs[k] := List.getElem?_eq_getElem hk
    have hz : (xs.map f)[k]? = some (f xs[k]) := by rw [List.getElem?_map, hx]; rfl
    obtain ⟨y', ey, ry⟩ := hl.get hz
    rw [hy] at ey
    cases ey
    refine hg xs[k] i (Z.pin F) F' H σ y (O i) cc ((f xs[k]).mono cc.pin ry) _ fun σ' c' _ => ?_
    exact body k xs[k] i F F' H σ' _ hx p c' fun j F'' H' σ'' pj cj => ⟨j, F'', pj, cj⟩
  · rintro σ H ⟨i, F', p, cc⟩
    rw [hlen] at p
    exact hd i F' H σ p (cc.unpin c.pin)
/-- a list against the list without items, where its items need not tell all -/
theorem ev_cmpNilD {K : PySem.W.Frag} {Γ : Gm} {Ω : Om} {ta : TE} {α : Type} {f : α → As} {d : α → PyData} {k : Nat} {xs : List α} (neg : Bool) (his : ∀ x, IsD K (f x) (d x)) (hgd : ∀ x, Gd k (d x)) (ha : Lk K Γ Ω ta (xs.map f)) (l : k ≤ 63 := by decide) : Ev Γ Ω (tOp (if neg then rNeD K else rEqD K) ta (tLst tNil)) (B (if neg then !xs.isEmpty else xs.isEmpty)) := fun Z F H σ c Q q =>
  ha Z F H σ c _ fun a F1 H1 c1 s1 hs => ⟨Nat.zero_le _, fun p hp => by
    obtain ⟨F2, H2, e, c2, s2, r⟩ := new_ls (K := K) (Rs := []) (xs := []) c1 trivial hp
    rw [← e]
    obtain ⟨ys, hs2, hl⟩ := hs F2 H2 c2 s2.fe
    have d1 : Dp K H2 (.ref a) (.list (xs.map d)) := .lst hs2 (dpall (alld_map his xs) c2.sub hl)
    have d2 : Dp K H2 (.ref p) (.list []) := by
      obtain ⟨p', zs, ep, hz, hzl⟩ := r
      cases ep
      exact .lst (c2.sub.seq hz) (dpall (Rs := []) (ds := []) trivial c2.sub hzl)
    have g1 : Gd (k + 1) (.list (xs.map d)) := gd_list fun d' hd => by
      obtain ⟨x, _, e⟩ := List.mem_map.mp hd
      subst e; exact hgd x
    have sh1 := g1.shaped (Nat.succ_le_succ l)
    have sh2 : SeqAt.shaped (.list []) = true := by decide
    have ee : PyData.eqv (.list (xs.map d)) (.list []) = xs.isEmpty := by
      cases xs <;> rfl
    cases neg with
    | true => exact ⟨_, _, d1, d2, sh1, sh2, by rw [ee]; exact q _ F2 H2 c2 (s1.trans s2) rfl⟩
    | false => exact ⟨_, _, d1, d2, sh1, sh2, by rw [ee]; exact q _ F2 H2 c2 (s1.trans s2) rfl⟩⟩
/-! ## dicts by whole numbers -/
def AllK (F : Hp) : List (Int × As) → List (Key × V) → Prop
  | [], [] => True
  | (k, R) :: l, (q, v) :: kvs => q = .inl k ∧ R.p F v ∧ AllK F l kvs
  | _, _ => False
theorem AllK.mono {F F' : Hp} (s : Same F F') : ∀ {l : List (Int × As)} {kvs : List (Key × V)}, AllK F l kvs → AllK F' l kvs
  | [], [], _ => trivial
  | (k, R) :: l, (q, v) :: kvs, h => ⟨h.1, R.mono s h.2.1, AllK.mono s h.2.2⟩
  | [], _ :: _, h => h.elim
  | _ :: _, [], h => h.elim
theorem AllK.length {F : Hp} : ∀ {l : List (Int × As)} {kvs : List (Key × V)}, AllK F l kvs → kvs.length = l.length
  | [], [], _ => rfl
  | (k, R) :: l, (q, v) :: kvs, h => congrArg (· + 1) (AllK.length h.2.2)
  | [], _ :: _, h => h.elim
  | _ :: _, [], h => h.elim
/-- what stands at k -/
def getD {β : Type} (k : Int) : List (Int × β) → Option β
  | [] => none
  | (i, y) :: l => if i = k then some y else getD k l
def hasD {β : Type} (k : Int) : List (Int × β) → Bool
  | [] => false
  | (i, _) :: l => decide (i = k) || hasD k l
def putD {β : Type} (l : List (Int × β)) (k : Int) (y : β) : List (Int × β) := if hasD k l then l.map fun p => if p.1 = k then (p.1, y) else p else l ++ [(k, y)]
theorem getD_map {β γ : Type} {g : β → γ} (k : Int) : ∀ l : List (Int × β), getD k (l.map fun p => (p.1, g p.2)) = (getD k l).map g
  | [] => rfl
  | (i, y) :: l => by
    show (if i = k then some (g y) else getD k (l.map fun p => (p.1, g p.2))) = (if i = k then some y else getD k l).map g
    split
    · rfl
    · exact getD_map k l
theorem hasD_map {β γ : Type} {g : β → γ} (k : Int) : ∀ l : List (Int × β), hasD k (l.map fun p => (p.1, g p.2)) = hasD k l
  | [] => rfl
  | (i, y) :: l => by
    show (decide (i = k) || hasD k (l.map fun p => (p.1, g p.2))) = (decide (i = k) || hasD k l)
    rw [hasD_map k l]
theorem putD_map {β γ : Type} {g : β → γ} {k : Int} {y : β} {l : List (Int × β)} : putD (l.map fun p => (p.1, g p.2)) k (g y) = (putD l k y).map fun p => (p.1, g p.2) := by
  unfold putD
  rw [hasD_map]
  split
  · rw [List.map_map, List.map_map]
    refine List.map_congr_left fun p _ => ?_
    simp only [Function.comp]
    split <;> rfl
  · rw [List.map_append]; rfl
theorem hasD_get {β : Type} (k : Int) : ∀ l : List (Int × β), hasD k l = (getD k l).isSome
  | [] => rfl
  | (i, y) :: l => by
    show (decide (i = k) || hasD k l) = (if i = k then some y else getD k l).isSome
    by_cases h : i = k
    · rw [if_pos h, decide_eq_true h]; rfl
    · rw [if_neg h, decide_eq_false h, hasD_get k l]; rfl
theorem getD_put {β : Type} {k j : Int} {y : β} : ∀ {l : List (Int × β)}, getD j (putD l k y) = if j = k then some y else getD j l := fun {l} => by
  have h1 : ∀ l : List (Int × β), getD j (l.map fun p => if p.1 = k then (p.1, y) else p) = if j = k then (getD j l).map (fun _ => y) else getD j l := fun l => by
    induction l with
    | nil => simp [getD]
    | cons p l ih =>
      obtain ⟨i, z⟩ := p
      rw [List.map_cons]
      by_cases h : i = k
      · rw [if_pos h]
        show (if i = j then some y else getD j _) = _
        rw [ih]
        by_cases hj : j = k
        · rw [if_pos hj, if_pos hj, if_pos (h.trans hj.symm)]
          show some y = (if i = j then some z else getD j l).map _
          rw [if_pos (h.trans hj.symm)]; rfl
        · have hij : ¬ i = j := fun e => hj (e.symm.trans h)
          rw [if_neg hj, if_neg hj, if_neg hij]
          show getD j l = if i = j then some z else getD j l
          rw [if_neg hij]
      · rw [if_neg h]
        show (if i = j then some z else getD j _) = _
        rw [ih]
        by_cases hj : j = k
        · have hij : ¬ i = j := fun e => h (e.trans hj)
          rw [if_neg hij, if_pos hj, if_pos hj]
          show _ = (if i = j then some z else getD j l).map _
          rw [if_neg hij]
        · rw [if_neg hj, if_neg hj]
          show _ = if i = j then some z else getD j l
          rfl
  have h2 : ∀ l : List (Int × β), getD j (l ++ [(k, y)]) = (getD j l).or (if k = j then some y else none) := fun l => by
    induction l with
    | nil => rfl
    | cons p l ih =>
      obtain ⟨i, z⟩ := p
      show (if i = j then some z else getD j (l ++ [(k, y)])) = (if i = j then some z else getD j l).or _
      split
      · rfl
      · exact ih
  unfold putD
  split
  · rename_i h
    rw [h1]
    split
    · rename_i e
      subst e
      rw [hasD_get] at h
      cases z : getD j l with
      | none => rw [z] at h; cases h
      | some x => rfl
    · rfl
  · rename_i h
    rw [h2]
    by_cases e : j = k
    · subst e
      have hn : getD j l = none := by
        rw [hasD_get] at h
        cases z : getD j l with
        | none => rfl
        | some x => rw [z] at h; exact absurd rfl h
      rw [hn]; simp
    · rw [if_neg (fun z => e z.symm), if_neg e, Option.or_none]
theorem AllK.get {F : Hp} {k : Int} : ∀ {l : List (Int × As)} {kvs : List (Key × V)}, AllK F l kvs → (∀ R, getD k l = some R → ∃ v, valV kvs (.inl k) = some v ∧ R.p F v) ∧ (getD k l = none → valV kvs (.inl k) = none)
  | [], [], _ => ⟨fun R h => (by cases h), fun _ => rfl⟩
  | (i, R0) :: l, (q, v) :: kvs, ⟨h1, h2, h3⟩ => by
    obtain ⟨g1, g2⟩ := AllK.get (k := k) h3
    subst h1
    by_cases e : i = k
    · subst e
      rw [valV_pos rfl]
      have e2 : getD i ((i, R0) :: l) = some R0 := if_pos rfl
      rw [e2]
      exact ⟨fun R h => by cases h; exact ⟨v, rfl, h2⟩, fun h => by cases h⟩
    · rw [valV_neg (fun z => e (Sum.inl.inj z))]
      have e2 : getD k ((i, R0) :: l) = getD k l := if_neg e
      rw [e2]
      exact ⟨g1, g2⟩
  | [], _ :: _, h => h.elim
  | _ :: _, [], h => h.elim
theorem AllK.has {F : Hp} {k : Int} : ∀ {l : List (Int × As)} {kvs : List (Key × V)}, AllK F l kvs → (kvs.any fun kv => decide (kv.1 = .inl k)) = hasD k l
  | [], [], _ => rfl
  | (i, R0) :: l, (q, v) :: kvs, ⟨h1, h2, h3⟩ => by
    subst h1
    show (decide (Sum.inl i = (Sum.inl k : Key)) || kvs.any _) = (decide (i = k) || hasD k l)
    rw [AllK.has h3]
    congr 1
    exact decide_eq_decide.mpr ⟨fun z => Sum.inl.inj z, fun z => by rw [z]⟩
  | [], _ :: _, h => h.elim
  | _ :: _, [], h => h.elim
theorem AllK.put {F : Hp} {k : Int} {R : As} {v : V} (q : R.p F v) {l : List (Int × As)} {kvs : List (Key × V)} (h : AllK F l kvs) : AllK F (putD l k R) (putK kvs (.inl k) v) := by
  have h1 : ∀ {l : List (Int × As)} {kvs : List (Key × V)}, AllK F l kvs → AllK F (l.map fun p => if p.1 = k then (p.1, R) else p) (kvs.map fun kv => if kv.1 = (.inl k : Key) then (kv.1, v) else kv) := fun {l} => by
    induction l with
    | nil =>
      intro kvs h
      cases kvs with
      | nil => exact trivial
      | cons _ _ => exact h.elim
    | cons p l ih =>
      intro kvs h
      cases kvs with
      | nil => exact h.elim
      | cons kv kvs =>
        obtain ⟨i, R0⟩ := p
        obtain ⟨a, w⟩ := kv
        obtain ⟨a1, a2, a3⟩ := h
        subst a1
        rw [List.map_cons, List.map_cons]
        by_cases e : i = k
        · rw [if_pos e, if_pos (by rw [e])]
          exact ⟨rfl, q, ih a3⟩
        · rw [if_neg e, if_neg (fun z => e (Sum.inl.inj z))]
          exact ⟨rfl, a2, ih a3⟩
  have h2 : ∀ {l : List (Int × As)} {kvs : List (Key × V)}, AllK F l kvs → AllK F (l ++ [(k, R)]) (kvs ++ [(.inl k, v)]) := fun {l} => by
    induction l with
    | nil =>
      intro kvs h
      cases kvs with
      | nil => exact ⟨rfl, q, trivial⟩
      | cons _ _ => exact h.elim
    | cons p l ih =>
      intro kvs h
      cases kvs with
      | nil => exact h.elim
      | cons kv kvs => exact ⟨h.1, h.2.1, ih h.2.2⟩
  unfold putD putK
  rw [h.has]
  split
  · exact h1 h
  · exact h2 h
theorem len_putD {β : Type} (l : List (Int × β)) (k : Int) (y : β) : (putD l k y).length ≤ l.length + 1 := by
  unfold putD
  split
  · rw [List.length_map]; omega
  · rw [List.length_append]; exact Nat.le_refl _
def oD (l : List (Int × As)) : OA := ⟨fun F o => ∃ kvs, o = .dK kvs ∧ AllK F l kvs, fun s h => by
  obtain ⟨kvs, e, q⟩ := h; exact ⟨kvs, e, q.mono s⟩⟩
/-- a dict that stands still -/
def Dc (l : List (Int × As)) : As := ⟨fun F v => ∃ a kvs, v = .ref a ∧ F a = some (.dK kvs) ∧ AllK F l kvs, fun s h => by
  obtain ⟨a, kvs, e, h1, h2⟩ := h; exact ⟨a, kvs, e, s _ _ h1, h2.mono s⟩⟩
section
variable {Z : Bs} {F H F' H' : Hp} {σ σ' : L2.St} {Γ Γ' : Gm} {Ω Ω' Ωr : Om} {K : PySem.W.Frag} {te ta tb tl tk tx : TE} {tt : TT} {R Rx Ry : As} {Rs Ss : List As} {n : L2.St → Hp → Prop} {r : VK} {bk ct : L2.St → Hp → Prop} {p C dx : Addr} {l : List (Int × As)} {f m : Str} {j : Nat} {E : XK} {A : OA}
/-- an expression whose value is a dict -/
def Dk (Γ : Gm) (Ω : Om) (te : TE) (l : List (Int × As)) : Prop := ∀ (Z : Bs) (F H : Hp) (σ : L2.St), Ctx Z F H σ Γ Ω → ∀ Q : VK, (∀ a F' H', Ctx Z F' H' σ Γ Ω → Ext [] F H F' H' → (∀ F2 H2, Ctx Z F2 H2 σ Γ Ω → Same F' F2 → ∃ kvs, H2 a = some (.dK kvs) ∧ AllK F2 l kvs) → Q (.ref a) H') → te σ H Q
theorem dk (h : Ev Γ Ω te (Dc l)) : Dk Γ Ω te l := fun Z F H σ c Q q => h Z F H σ c Q fun v F1 H1 c1 s1 rv => by
  obtain ⟨a, kvs, e, h1, h2⟩ := rv
  subst e
  exact q a F1 H1 c1 s1 fun F2 H2 c2 s2 => ⟨kvs, c2.sub _ _ (s2 _ _ h1), h2.mono s2⟩
theorem dko (h : Ev Γ Ω te (Rf p)) (hm : Ω[j]? = some (p, oD l)) : Dk Γ Ω te l := fun Z F H σ c Q q => h Z F H σ c Q fun v F1 H1 c1 s1 rv => by
  cases rv
  refine q p F1 H1 c1 s1 fun F2 H2 c2 s2 => ?_
  obtain ⟨_, o, h2, kvs, eo, hx⟩ := c2.own _ (List.mem_of_getElem? hm)
  subst eo
  exact ⟨kvs, h2, hx⟩
theorem eo_dnew : EvNw Γ Ω tDNewK (oD []) := fun Z F H σ c Q q p hp => q p F _ (c.grow (A := oD []) hp ⟨[], rfl, trivial⟩) (Ext.newH hp) hp
theorem ev_dget {i : Int} (ha : Dk Γ Ω ta l) (hb : Ev Γ Ω tb (I i)) (h : getD i l = some R) : Ev Γ Ω (tDGet ta tb) R := fun Z F H σ c Q q =>
  ha Z F H σ c _ fun a F1 H1 c1 s1 hd => hb Z F1 H1 σ c1 _ fun y F2 H2 c2 s2 ry => by
    cases ry
    obtain ⟨kvs, h1, h2⟩ := hd F2 H2 c2 s2.fe
    obtain ⟨v, h3, h4⟩ := (h2.get (k := i)).1 R h
    exact ⟨a, v, rfl, h3 ▸ DGet.k (k := .inl i) h1, q v F2 H2 c2 (s1.trans s2) h4⟩
theorem ev_din {i : Int} (hb : Ev Γ Ω tb (I i)) (ha : Dk Γ Ω ta l) : Ev Γ Ω (tDIn tb ta) (B (hasD i l)) := fun Z F H σ c Q q =>
  hb Z F H σ c _ fun y F1 H1 c1 s1 ry => ha Z F1 H1 σ c1 _ fun a F2 H2 c2 s2 hd => by
    cases ry
    obtain ⟨kvs, h1, h2⟩ := hd F2 H2 c2 (Same.refl _)
    refine ⟨a, valV kvs (.inl i), rfl, DGet.k (k := .inl i) h1, q _ F2 H2 c2 (s1.trans s2) ?_⟩
    rw [← valV_any, h2.has]; rfl
theorem ev_dnotin {i : Int} (hb : Ev Γ Ω tb (I i)) (ha : Dk Γ Ω ta l) : Ev Γ Ω (tDNotIn tb ta) (B (!hasD i l)) := fun Z F H σ c Q q =>
  hb Z F H σ c _ fun y F1 H1 c1 s1 ry => ha Z F1 H1 σ c1 _ fun a F2 H2 c2 s2 hd => by
    cases ry
    obtain ⟨kvs, h1, h2⟩ := hd F2 H2 c2 (Same.refl _)
    refine ⟨a, valV kvs (.inl i), rfl, DGet.k (k := .inl i) h1, q _ F2 H2 c2 (s1.trans s2) ?_⟩
    rw [← valV_any, h2.has]; rfl
/-- d.get(i, x) -/
theorem ev_dget2 {i : Int} {S : As} (ha : Dk Γ Ω ta l) (hb : Ev Γ Ω tb (I i)) (hx : Ev Γ Ω tx Rx) (h1 : ∀ R, getD i l = some R → ∀ F v, R.p F v → S.p F v) (h2 : getD i l = none → ∀ F v, Rx.p F v → S.p F v) : Ev Γ Ω (tDGet2 ta tb tx) S := fun Z F H σ c Q q =>
  ha Z F H σ c _ fun a F1 H1 c1 s1 hd => by
    obtain ⟨kvs, g1, g2⟩ := hd F1 H1 c1 (Same.refl _)
    refine ⟨a, rfl, .inl ⟨kvs, .inl g1⟩, hb Z F1 H1 σ c1 _ fun y F2 H2 c2 s2 ry => hx Z F2 H2 σ c2 _ fun x F3 H3 c3 s3 rx => ?_⟩
    cases ry
    obtain ⟨kvs, g1, g2⟩ := hd F3 H3 c3 (s2.trans s3).fe
    refine ⟨valV kvs (.inl i), DGet.k (k := .inl i) g1, q _ F3 H3 c3 (s1.trans (s2.trans s3)) ?_⟩
    cases e : getD i l with
    | none => rw [(g2.get (k := i)).2 e]; exact h2 e _ _ rx
    | some R =>
      obtain ⟨v, e3, e4⟩ := (g2.get (k := i)).1 R e
      rw [e3]; exact h1 R e _ _ e4
/-- d[i] = x, d owned -/
theorem st_dput {i : Int} (c : Ctx Z F H σ Γ Ω) (e : Ev Γ Ω te R) (ha : Ev Γ Ω ta (Rf p)) (hm : Ω[j]? = some (p, oD l)) (hb : Ev Γ Ω tb (I i)) (hl : l.length ≤ 10000000) (k : ∀ F' H', Ctx Z F' H' σ Γ (Ω.set j (p, oD (putD l i R))) → Same F F' → n σ H') (hw : Wr Z p) : sDPut ta tb te ⟨n, r, bk, ct⟩ σ H :=
  e Z F H σ c _ fun v F1 H1 c1 s1 rv => ha Z F1 H1 σ c1 _ fun x F2 H2 c2 s2 rx => hb Z F2 H2 σ c2 _ fun y F3 H3 c3 s3 ry => by
    cases rx
    cases ry
    obtain ⟨_, o, h2, kvs, eo, hx⟩ := c3.own _ (List.mem_of_getElem? hm)
    subst eo
    exact ⟨p, _, rfl, DPut.k (k := .inl i) h2 (by rw [hx.length]; exact Nat.lt_of_le_of_lt hl (by decide)), k F3 _ (c3.chg hm ⟨_, rfl, hx.put (R.mono (s2.trans s3).fe rv)⟩ hw) (s1.trans (s2.trans s3)).fe⟩
/-- a dict of one's own, frozen -/
theorem Ctx.frzD (c : Ctx Z F H σ Γ Ω) (hm : Ω[j]? = some (p, oD l)) (hzp : Z.H p = none) : ∃ F', Same F F' ∧ Ctx Z F' H σ Γ (Ω.eraseIdx j) ∧ (Dc l).p F' (.ref p) := by
  have hmem := List.mem_of_getElem? hm
  have hj : j < Ω.length := (List.getElem?_eq_some_iff.mp hm).1
  obtain ⟨hf, o0, h0, xs, e, hl⟩ := c.own _ hmem
  dsimp only at hf h0
  have s : Same F (upd F p (.dK xs)) := fun a u q => by rw [upd_ne (ne_of_none q hf)]; exact q
  have other : ∀ x ∈ Ω.eraseIdx j, x ∈ Ω ∧ x.1 ≠ p := fun x hx => by
    have hx' := List.mem_of_mem_eraseIdx hx
    refine ⟨hx', fun z => ?_⟩
    obtain ⟨i, hi⟩ := List.getElem?_of_mem hx
    rw [List.getElem?_eraseIdx] at hi
    split at hi
    · have a1 : (Ω.map (·.1))[i]? = some p := by rw [List.getElem?_map, hi, ← z]; rfl
      have a2 : (Ω.map (·.1))[j]? = some p := by rw [List.getElem?_map, hm]; rfl
      have := nd_ix c.nd a1 a2
      omega
    · have a1 : (Ω.map (·.1))[i + 1]? = some p := by rw [List.getElem?_map, hi, ← z]; rfl
      have a2 : (Ω.map (·.1))[j]? = some p := by rw [List.getElem?_map, hm]; rfl
      have := nd_ix c.nd a1 a2
      omega
  refine ⟨upd F p (.dK xs), s, ⟨c.sat.mono s, fun a u q => ?_, fun x hx => ?_, ((List.eraseIdx_sublist Ω j).map _).nodup c.nd, fun x hx => c.loc x (other x hx).1, ⟨c.ext.fe.trans s, c.ext.fr, c.ext.dm, fun a h1 h2 => ?_⟩, c.pin.trans s⟩, p, xs, rfl, upd_same, hl.mono s⟩
  · by_cases z : a = p
    · subst z
      rw [upd_same] at q
      rw [h0, e]
      exact q
    · rw [upd_ne z] at q
      exact c.sub a u q
  · obtain ⟨hx1, hx2⟩ := other x hx
    obtain ⟨h1, o', h2, h3⟩ := c.own x hx1
    exact ⟨by rw [upd_ne hx2]; exact h1, o', h2, x.2.mono s h3⟩
  · have z : a ≠ p := fun z => h1 (by rw [z]; exact hzp)
    rw [upd_ne z]
    exact c.ext.nw a h1 h2
theorem hu_of {k : Nat} {A : Around} (r : Room k A) : A.units + 1 < cLine := by have := r.units; omega
theorem hu65 {k : Nat} {A : Around} (r : Room k A) : A.units + 65 < cLine := by have := r.un; omega
theorem any_kd {α : Type} [DecidableEq α] {f : α → As} {d : α → PyData} {k : Nat} {x : α} (h : Kd K f d k) : ∀ xs : List α, ((xs.map d).any fun z => PyData.eqv z (d x)) = decide (x ∈ xs)
  | [] => by simp
  | y :: xs => by
    rw [List.map_cons, List.any_cons, any_kd h xs]
    by_cases e : y = x
    · have := (h.eq y x).mpr e
      rw [this, e]; simp
    · have : PyData.eqv (d y) (d x) = false := Bool.eq_false_iff.mpr fun z => e ((h.eq y x).mp z)
      rw [this]
      have e2 : ¬ x = y := fun z => e z.symm
      simp [e2]
/-- x in l, x not in l: by data -/
theorem ev_inK {α : Type} [DecidableEq α] {f : α → As} {d : α → PyData} {k : Nat} {x : α} {xs : List α} (h : Kd K f d k) (ha : Ev Γ Ω ta (f x)) (hb : Lk K Γ Ω tb (xs.map f)) (l : k ≤ 63 := by decide) : Ev Γ Ω (tOp (rInD K) ta tb) (B (decide (x ∈ xs))) := fun Z F H σ c Q q =>
  ha Z F H σ c _ fun v F1 H1 c1 s1 rv => hb Z F1 H1 σ c1 _ fun a F2 H2 c2 s2 hs => by
    obtain ⟨ys, hs2, hl⟩ := hs F2 H2 c2 (Same.refl _)
    have d1 : Dp K H2 (.ref a) (.list (xs.map d)) := .lst hs2 (dpall (alld_map h.is xs) c2.sub hl)
    have d2 := (h.is x).dp F2 H2 v c2.sub ((f x).mono s2.fe rv)
    exact ⟨d x, xs.map d, d2, d1, (h.gd x).shaped (Nat.le_succ_of_le l), ((kd_list h).gd xs).shaped (Nat.succ_le_succ l), q _ F2 H2 c2 (s1.trans s2) (by rw [any_kd h]; rfl)⟩
theorem ev_notInK {α : Type} [DecidableEq α] {f : α → As} {d : α → PyData} {k : Nat} {x : α} {xs : List α} (h : Kd K f d k) (ha : Ev Γ Ω ta (f x)) (hb : Lk K Γ Ω tb (xs.map f)) (l : k ≤ 63 := by decide) : Ev Γ Ω (tOp (rNotInD K) ta tb) (B (!decide (x ∈ xs))) := fun Z F H σ c Q q =>
  ha Z F H σ c _ fun v F1 H1 c1 s1 rv => hb Z F1 H1 σ c1 _ fun a F2 H2 c2 s2 hs => by
    obtain ⟨ys, hs2, hl⟩ := hs F2 H2 c2 (Same.refl _)
    have d1 : Dp K H2 (.ref a) (.list (xs.map d)) := .lst hs2 (dpall (alld_map h.is xs) c2.sub hl)
    have d2 := (h.is x).dp F2 H2 v c2.sub ((f x).mono s2.fe rv)
    exact ⟨d x, xs.map d, d2, d1, (h.gd x).shaped (Nat.le_succ_of_le l), ((kd_list h).gd xs).shaped (Nat.succ_le_succ l), q _ F2 H2 c2 (s1.trans s2) (by rw [any_kd h]; rfl)⟩
/-- d.setdefault(k, v) -/
theorem mt_setd {X : Cx} : MtR X "dict.setdefault" rSetd := by
  intro pins s σ H x xs v us Q I rx rv h
  obtain ⟨a, kvs, k, w, ex, rfl, ea, hl, w1, w2⟩ := h
  subst ex
  obtain rfl : v = Value.ref a := rx
  cases rv with
  | cons ry rv =>
    cases rv with
    | cons rd rv =>
      cases rv
      obtain ⟨z, hd, vs0, rel, dd⟩ := dk_of I.hok ea
      have dd2 := dd
      obtain ⟨o, es, ep, eo, exd, hdat, _⟩ := dd2
      have hz : vs0.length ≤ sizeLine := by rw [← rel.length]; exact z
      refine call_meetsIn PySem.F.slot_dict_setdefault dd.typeIs PySem.F.entry_dict_setdefault (PySem.F.args_dict_setdefault_3 _ _ _) (kt_meets_setdefault (mixKind X.prog X.w) _ (kV_is ry) hd _) ⟨vs0, dd, hz, fun u hu => ?_, fun hn h' dd' hs => ?_⟩
      · have rr := rel.val k
        rw [hu] at rr
        cases hv : valV kvs k with
        | none => rw [hv] at rr; exact False.elim rr
        | some y =>
          rw [hv] at rr
          exact (⟨y, H, I.tok _, rr, w1 y hv⟩ : EP X pins σ Q u _)
      · have rr := rel.val k
        rw [hn] at rr
        cases hv : valV kvs k with
        | some y => rw [hv] at rr; exact False.elim rr
        | none =>
          have hl2 : (putK kvs k w).length ≤ sizeLine := by have := length_putK kvs k w; omega
          exact (⟨w, _, d_write (t' := s.toks + 1) I (by rw [ea]; exact True.intro) hs (let ⟨q, _, _, hq, _⟩ := dd'; ⟨q, hq⟩) (dk_new hl2 hd (rel.put k rd) dd'), rd, w2 hv⟩ : EP X pins σ Q _ _)
/-- what stands there, or the new one -/
def setD {β : Type} (l : List (Int × β)) (k : Int) (y : β) : List (Int × β) := if hasD k l then l else l ++ [(k, y)]
theorem setD_map {β γ : Type} {g : β → γ} {k : Int} {y : β} {l : List (Int × β)} : setD (l.map fun p => (p.1, g p.2)) k (g y) = (setD l k y).map fun p => (p.1, g p.2) := by
  unfold setD
  rw [hasD_map]
  split
  · rfl
  · rw [List.map_append]; rfl
theorem setD_put {β : Type} {k : Int} {y : β} {l : List (Int × β)} (h : ¬ hasD k l = true) : setD l k y = putD l k y := by
  unfold setD putD
  rw [if_neg h, if_neg h]
theorem st_setd {i : Int} (c : Ctx Z F H σ Γ Ω) (ha : Ev Γ Ω ta (Rf p)) (hm : Ω[j]? = some (p, oD l)) (hb : Ev Γ Ω tb (I i)) (e : Ev Γ Ω te R) (hl : l.length ≤ 10000000) (k : ∀ F' H', Ctx Z F' H' σ Γ (Ω.set j (p, oD (setD l i R))) → Same F F' → n σ H') (hw : Wr Z p) :
    tDrop (tBM K "dict" rSetd ta (tCons tb (tCons te tNil))) ⟨n, r, bk, ct⟩ σ H :=
  ha Z F H σ c _ fun x F1 H1 c1 s1 rx => by
    cases rx
    obtain ⟨_, o, h2, kvs, eo, hx⟩ := c1.own _ (List.mem_of_getElem? hm)
    refine ⟨.inr (.inr (.inl ⟨rfl, .inl ⟨kvs, by rw [h2, eo]⟩⟩)), hb Z F1 H1 σ c1 _ fun y F2 H2 c2 s2 ry => e Z F2 H2 σ c2 _ fun v F3 H3 c3 s3 rv => ?_⟩
    cases ry
    obtain ⟨_, o, h2, kvs, eo, hx⟩ := c3.own _ (List.mem_of_getElem? hm)
    subst eo
    refine ⟨p, kvs, .inl i, v, rfl, rfl, h2, by rw [hx.length]; exact Nat.lt_of_le_of_lt hl (by decide), fun u hu => ?_, fun hn => ?_⟩
    · have hh : hasD i l = true := by rw [← hx.has, valV_any, hu]; rfl
      have e : setD l i R = l := by unfold setD; rw [if_pos hh]
      have hk := k F3 H3
      rw [e] at hk
      have hs : Ω.set j (p, oD l) = Ω := by
        refine List.ext_getElem? fun q => ?_
        rw [List.getElem?_set]
        split
        · rename_i z
          subst z
          rw [hm]
          split
          · rfl
          · rename_i z2
            exact absurd (List.getElem?_eq_some_iff.mp hm).1 z2
        · rfl
      rw [hs] at hk
      exact hk c3 (s1.trans (s2.trans s3)).fe
    · have hh : ¬ hasD i l = true := by rw [← hx.has, valV_any, hn]; exact Bool.false_ne_true
      have hk := k F3 (upd H3 p (.dK (putK kvs (.inl i) v)))
      rw [setD_put hh] at hk
      exact hk (c3.chg hm ⟨_, rfl, hx.put rv⟩ hw) (s1.trans (s2.trans s3)).fe
end
end Y

namespace Y
open PySem L2 PySem.Spec
open PyProof.Rows (envOfC)
/-! ## list.remove of data -/
theorem remove_loopAt (l : Addr) (items : Array Value) (n : Nat) (x : Value) (eb : Nat → Bool) (j : Nat) (hj : j < items.size) (hit : eb j = true) (hs1 : items.size ≤ sizeLine) : ∀ (k i : Nat), j - i = k → i ≤ j → (∀ m, i ≤ m → m < j → eb m = false) →
    Meets (Builtin.«list.remove.loop» { pos := [Value.ref l, x, rawInt (i : Int)] }) (fun A R s => s.heap.get? l = some { cls := Value.type "list", data := Data.seq items n } ∧ (∀ m (hm : m < items.size), m ≤ j → SeqAt.EqAt A.in1 s items[m] x (eb m)) ∧ R (Except.ok (Flow.ret Value.none)) { heap := s.heap.update l (Obj.mapSeq fun xs => xs.eraseIdxIfInBounds j), gens := s.gens, drawn := s.drawn, toks := s.toks, os := s.os }) := by
  intro k
  induction k with
  | zero =>
    intro i hk hij hno prog w A R s h
    obtain ⟨hl, he, h⟩ := h
    have e : i = j := by omega
    subst e
    have hi : items[((i : Int)).toNat]? = some items[i] := by rw [Int.toNat_natCast]; exact Array.getElem?_eq_getElem hj
    unfold Builtin.«list.remove.loop» rawInt
    dsimp only
    refine wpAny_bind ?_
    unfold Builtin.List.listItems
    refine wpAny_bind ?_
    unfold seqItems?
    dsimp only
    refine wpAny_bind ?_
    refine wpAny_load' hl ?_
    dsimp only
    refine wpAny_pure ?_
    dsimp only
    refine wpAny_pure ?_
    rw [hi]
    dsimp only
    refine wpAny_bind ?_
    refine he i hj (Nat.le_refl _) prog w _ _ ?_
    rw [hit]
    refine wpAny_ite_true rfl ?_
    refine wpAny_bind ?_
    unfold Builtin.List.listUpdate
    dsimp only
    exact wpAny_updateSeq hl rfl (wpAny_pure h) hs1 (Nat.le_trans (MeetsSeq.size_erased _ _) (Nat.le_succ_of_le hs1))
  | succ k ih =>
    intro i hk hij hno prog w A R s h
    obtain ⟨hl, he, h⟩ := h
    have hlt : i < j := by omega
    have hil : i < items.size := by omega
    have hi : items[((i : Int)).toNat]? = some items[i] := by rw [Int.toNat_natCast]; exact Array.getElem?_eq_getElem hil
    unfold Builtin.«list.remove.loop» rawInt
    dsimp only
    refine wpAny_bind ?_
    unfold Builtin.List.listItems
    refine wpAny_bind ?_
    unfold seqItems?
    dsimp only
    refine wpAny_bind ?_
    refine wpAny_load' hl ?_
    dsimp only
    refine wpAny_pure ?_
    dsimp only
    refine wpAny_pure ?_
    rw [hi]
    dsimp only
    refine wpAny_bind ?_
    refine he i hil (Nat.le_of_lt hlt) prog w _ _ ?_
    rw [hno i (Nat.le_refl _) hlt]
    refine wpAny_ite_false rfl ?_
    refine wpAny_pure ?_
    refine ⟨plainId_quiet MeetsSeq.plain_remove_loop _, codeAny_builtin MeetsSeq.entry_remove_loop ?_⟩
    rw [Around.under_plainId MeetsSeq.plain_remove_loop]
    exact ih (i + 1) (by omega) (by omega) (fun m h1 h2 => hno m (by omega) h2) prog w A R s ⟨hl, he, h⟩
theorem list_removeAt (l : Addr) (items : Array Value) (n : Nat) (x : Value) (eb : Nat → Bool) (j : Nat) (hj : j < items.size) (hit : eb j = true) (hno : ∀ m, m < j → eb m = false) (hs1 : items.size ≤ sizeLine) :
    Meets (Builtin.«list.remove» { pos := [Value.ref l, x] }) (fun A R s => s.heap.get? l = some { cls := Value.type "list", data := Data.seq items n } ∧ (∀ m (hm : m < items.size), m ≤ j → SeqAt.EqAt A.in1 s items[m] x (eb m)) ∧ R (Except.ok (Flow.ret Value.none)) { heap := s.heap.update l (Obj.mapSeq fun xs => xs.eraseIdxIfInBounds j), gens := s.gens, drawn := s.drawn, toks := s.toks, os := s.os }) := by
  intro prog w A R s h
  unfold Builtin.«list.remove»
  refine wpAny_bind ?_
  unfold selfAndOne
  refine wpAny_bind ?_
  refine wpAny_ite_true rfl ?_
  refine wpAny_pure ?_
  refine wpAny_pure ?_
  refine wpAny_pure ?_
  refine ⟨plainId_quiet MeetsSeq.plain_remove_loop _, codeAny_builtin MeetsSeq.entry_remove_loop ?_⟩
  rw [Around.under_plainId MeetsSeq.plain_remove_loop]
  exact remove_loopAt l items n x eb j hj hit hs1 (j - 0) 0 rfl (Nat.zero_le j) (fun m _ h2 => hno m h2) prog w A R s h
/-- list.remove(y), by data -/
def rRemD (K : PySem.W.Frag) : V → List V → Hp → VK → Prop := fun x xs H Q => ∃ (l : Addr) (ys : List V) (y : V) (ds : List PyData) (d : PyData) (j : Nat), x = .ref l ∧ xs = [y] ∧ H l = some (.lst ys) ∧ DpAll K H ys ds ∧ Dp K H y d ∧ (∀ e ∈ ds, Gd 60 e) ∧ Gd 60 d ∧ (∃ e, ds[j]? = some e ∧ e.eqv d = true) ∧ (∀ m < j, ∀ e, ds[m]? = some e → e.eqv d = false) ∧ Q .non (upd H l (.lst (ys.eraseIdx j)))
theorem dpall_get {K : PySem.W.Frag} {H : Hp} : ∀ {ys : List V} {ds : List PyData}, DpAll K H ys ds → ys.length = ds.length ∧ ∀ (m : Nat) (y : V) (d : PyData), ys[m]? = some y → ds[m]? = some d → Dp K H y d
  | [], [], _ => ⟨rfl, fun m y d h => by simp at h⟩
  | v :: vs, d :: ds, .cons h1 h2 => by
    obtain ⟨i1, i2⟩ := dpall_get h2
    refine ⟨by rw [List.length_cons, List.length_cons, i1], fun m y e hy he => ?_⟩
    cases m with
    | zero =>
      have a : v = y := Option.some.inj hy
      have b : d = e := Option.some.inj he
      rw [← a, ← b]; exact h1
    | succ m => exact i2 m y e hy he
theorem vals_get : ∀ {xs : List V} {us : List Value}, Vals xs us → ∀ (m : Nat) (x : V), xs[m]? = some x → ∃ u, us[m]? = some u ∧ RelV x u
  | [], [], _, m, x, h => by simp at h
  | x :: xs, u :: us, .cons h1 h2, m, y, h => by
    cases m with
    | zero =>
      have a : x = y := Option.some.inj h
      exact ⟨u, rfl, a ▸ h1⟩
    | succ m => exact vals_get h2 m y h
theorem mt_removeD {X : Cx} (hu : X.A.units + 70 < cLine) : MtM X "list.remove" (rRemD X.K) := by
  intro pins s σ H x xs v us Q I rx rxs h
  obtain ⟨l, ys, y, ds, d, j, ex, exs, hH, hds, hd, sds, sd, ⟨e0, he0, hev⟩, hno, q⟩ := h
  subst ex exs
  obtain rfl : v = Value.ref l := rx
  obtain ⟨u, eu, ru⟩ := Vals.one rxs
  subst eu
  obtain ⟨z, its, n, r, hl, ho⟩ := Inv.lstM I hH
  obtain ⟨hlen, hget⟩ := dpall_get hds
  obtain ⟨bs, r2⟩ := Dp.reads I d y u hd ru
  have hjd := (List.getElem?_eq_some_iff.mp he0).1
  refine call_meets PySem.F.slot_list_remove ⟨_, ho, rfl⟩ PySem.F.entry_list_remove (PySem.F.args_list_remove_2 _ _) (list_removeAt l its.toArray n u (fun m => match ds[m]? with | some e => e.eqv d | none => false) j (by rw [List.size_toArray]; omega) ?_ ?_ (by rw [List.size_toArray]; omega)) ⟨ho, ?_, ?_⟩
  · rw [he0]; exact hev
  · intro m hm
    cases e : ds[m]? with
    | none => rfl
    | some e1 => exact hno m hm e1 e
  · intro m hm hmj
    rw [List.size_toArray] at hm
    have hmy : ys[m]? = some (ys[m]'(by omega)) := List.getElem?_eq_getElem (by omega)
    have hmd : ds[m]? = some (ds[m]'(by omega)) := List.getElem?_eq_getElem (by omega)
    obtain ⟨w, hw1, hw2⟩ := vals_get r m _ hmy
    have hw3 : its[m]'hm = w := by
      rw [List.getElem?_eq_getElem hm] at hw1
      exact Option.some.inj hw1
    obtain ⟨as, r1⟩ := Dp.reads I _ _ w (hget m _ _ hmy hmd) hw2
    rw [hmd]
    show SeqAt.EqAt _ s (its[m]'hm) u _
    rw [hw3]
    have g1 := sds _ (List.mem_of_getElem? hmd)
    refine SeqAt.eqAt_reads _ _ _ _ _ _ _ _ r1 r2 g1.1 sd.1 ?_
    have := g1.2
    show X.A.units + 1 + min _ _ < cLine
    have : min (ds[m]'(by omega)).depth d.depth ≤ 60 := Nat.le_trans (Nat.min_le_left _ _) g1.2
    omega
  · refine ⟨.non, upd H l (.lst (ys.eraseIdx j)), Inv.lset (its' := its.eraseIdx j) I hH ho ?_ (Vals.eraseIdx j r) ?_, rfl, q⟩
    · exact List.eraseIdxIfInBounds_toArray its j
    · have := List.length_eraseIdx_le ys j
      omega
section
variable {Z : Bs} {F H F' H' : Hp} {σ σ' : L2.St} {Γ Γ' : Gm} {Ω Ω' Ωr : Om} {K : PySem.W.Frag} {te ta ti tl : TE} {n : L2.St → Hp → Prop} {r : VK} {bk ct : L2.St → Hp → Prop} {R : As} {Rs : List As} {p : Addr} {j : Nat}
theorem All.erase {F : Hp} : ∀ {Rs : List As} {xs : List V} (k : Nat), All F Rs xs → All F (Rs.eraseIdx k) (xs.eraseIdx k)
  | [], [], _, _ => trivial
  | [], _ :: _, _, h => h.elim
  | _ :: _, [], _, h => h.elim
  | R :: Rs, x :: xs, 0, h => h.2
  | R :: Rs, x :: xs, k + 1, h => ⟨h.1, All.erase k h.2⟩
theorem map_eraseIdx {α β : Type} {f : α → β} : ∀ (l : List α) (k : Nat), (l.map f).eraseIdx k = (l.eraseIdx k).map f
  | [], _ => rfl
  | x :: l, 0 => rfl
  | x :: l, k + 1 => by
    show f x :: (l.map f).eraseIdx k = f x :: (l.eraseIdx k).map f
    rw [map_eraseIdx l k]
/-- x.remove(e), x owned, e the k-th and the first that is like it -/
theorem st_rem {α : Type} {f : α → As} {d : α → PyData} {kk : Nat} {xs : List α} {k0 : Nat} {y : α} (hk : Kd K f d kk) (c : Ctx Z F H σ Γ Ω) (h : Ev Γ Ω ta (Rf p)) (hm : Ω[j]? = some (p, oL (xs.map f))) (e : Ev Γ Ω te (f y)) (h0 : xs[k0]? = some y) (h1 : ∀ m < k0, xs[m]? ≠ some y) (hw : Wr Z p) (k : ∀ F' H', Ctx Z F' H' σ Γ (Ω.set j (p, oL ((xs.eraseIdx k0).map f))) → Same F F' → n σ H') (hkk : kk ≤ 60 := by decide) :
    tDrop (tBM K "list" (rRemD K) ta (tCons te tNil)) ⟨n, r, bk, ct⟩ σ H :=
  h Z F H σ c _ fun v F1 H1 c1 s1 rv => by
    cases rv
    obtain ⟨_, o, h2, zs, eo, hx⟩ := c1.own _ (List.mem_of_getElem? hm)
    refine ⟨.inl ⟨rfl, _, SqL.of (by rw [h2, eo])⟩, ?_⟩
    refine e Z F1 H1 σ c1 _ fun w F2 H2 c2 s2 rw' => ?_
    obtain ⟨_, o, h2, zs, eo, hx⟩ := c2.own _ (List.mem_of_getElem? hm)
    refine ⟨p, zs, w, xs.map d, d y, k0, rfl, rfl, by rw [h2, eo], dpall (alld_map hk.is xs) c2.sub hx, (hk.is y).dp F2 H2 w c2.sub rw', ?_, ?_, ⟨d y, by rw [List.getElem?_map, h0]; rfl, (hk.eq y y).mpr rfl⟩, ?_, ?_⟩
    · intro q hq
      obtain ⟨z, _, ez⟩ := List.mem_map.mp hq
      rw [← ez]
      exact ⟨(hk.gd z).1, Nat.le_trans (hk.gd z).2 hkk⟩
    · exact ⟨(hk.gd y).1, Nat.le_trans (hk.gd y).2 hkk⟩
    · intro m hm2 q hq
      rw [List.getElem?_map] at hq
      obtain ⟨z, hz, ez⟩ := Option.map_eq_some_iff.mp hq
      rw [← ez]
      cases e2 : (d z).eqv (d y) with
      | false => rfl
      | true => exact absurd (by rw [hz, (hk.eq z y).mp e2]) (h1 m hm2)
    · refine k F2 _ (c2.chg hm ⟨_, rfl, ?_⟩ hw) (s1.fe.trans s2.fe)
      rw [← map_eraseIdx]
      exact All.erase k0 hx
end
theorem hu70 {k : Nat} {A : Around} (r : Room k A) : A.units + 70 < cLine := by have := r.un; omega
/-! ## peeks: an owned list read as a frozen one within a whole def -/
def minus (F : Hp) (p : Addr) : Hp := fun a => if a = p then none else F a
def Ind0 (R : As) : Prop := ∀ (F : Hp) (p : Addr) (xs : List V) (v : V), F p = some (.lst xs) → R.p F v → R.p (minus F p) v
theorem ind_c {w : V} : Ind0 (Cst w) := fun _ _ _ _ _ h => h
theorem minus_get {F : Hp} {p a : Addr} {u : HO} (h : F a = some u) (n : a ≠ p) : minus F p a = some u := by
  unfold minus; rw [if_neg n]; exact h
theorem ind_all {F : Hp} {p : Addr} {xs : List V} (hp : F p = some (.lst xs)) : ∀ {Rs : List As} {ys : List V}, (∀ R ∈ Rs, Ind0 R) → All F Rs ys → All (minus F p) Rs ys
  | [], [], _, _ => trivial
  | [], _ :: _, _, h => h.elim
  | _ :: _, [], _, h => h.elim
  | R :: Rs, y :: ys, hi, h => ⟨hi R List.mem_cons_self F p xs y hp h.1, ind_all hp (fun S hS => hi S (List.mem_cons_of_mem _ hS)) h.2⟩
theorem ind_tp {K : PySem.W.Frag} {Rs : List As} (hi : ∀ R ∈ Rs, Ind0 R) : Ind0 (Tp K Rs) := fun F p xs v hp h => by
  obtain ⟨a, ys, ea, hs, hl⟩ := h
  refine ⟨a, ys, ea, ?_, ind_all hp hi hl⟩
  rcases hs with z | z
  · refine .inl ?_
    have hne : a ≠ p := fun w => by
      rw [w] at z
      rcases z with z | ⟨_, z⟩ <;> (rw [hp] at z; cases z)
    rcases z with z | ⟨ob, z⟩
    · exact .inl (minus_get z hne)
    · exact .inr ⟨ob, minus_get z hne⟩
  · exact .inr z
theorem ind_fr {K : PySem.W.Frag} {q : Int × Int} : Ind0 (Fr K q) := ind_tp fun R hR => by
  rcases List.mem_cons.mp hR with z | hR
  · rw [z]; exact ind_c
  rw [List.mem_singleton.mp hR]; exact ind_c
theorem ind_fq {K : PySem.W.Frag} {q : Rat} : Ind0 (Fq K q) := ind_fr
theorem ind_op {α : Type} {R : α → As} {o : Option α} (h : ∀ x, Ind0 (R x)) : Ind0 (Op R o) := by
  cases o with
  | none => exact ind_c
  | some x => exact h x
/-- within a def that changes nothing: an owned list seen as a frozen one -/
theorem peek_own {K : PySem.W.Frag} {F H : Hp} {q : Addr} {Rs : List As} {R : As} {Q : VK} (s : Same F H) (o : Own F H [(q, oL Rs)]) (hi : Ind0 R) (hq : ∀ v F' H', Ext [] F H F' H' → Same F' H' → R.p F' v → Q v H') :
    ∃ F1, Same F F1 ∧ Same F1 H ∧ (Ls K Rs).p F1 (.ref q) ∧ (∀ x : Addr × OA, x.1 ≠ q → Own F H [x] → Own F1 H [x]) ∧ ∀ v F' H', Ext [] F1 H F' H' → Same F' H' → R.p F' v → Q v H' := by
  obtain ⟨h1, ob, h2, xs, eo, hx⟩ := o _ List.mem_cons_self
  subst eo
  dsimp only at h1 h2
  have s1 : Same F (upd F q (.lst xs)) := fun a u z => by rw [upd_ne (ne_of_none z h1)]; exact z
  refine ⟨upd F q (.lst xs), s1, fun a u z => ?_, ⟨q, xs, rfl, SqL.of upd_same, hx.mono s1⟩, fun x hne hx y hy => ?_, fun v F' H' ex s' hr => ?_⟩
  · by_cases e : a = q
    · rw [e] at z ⊢; rw [upd_same] at z; rw [← z]; exact h2
    · rw [upd_ne e] at z; exact s a u z
  · rw [List.mem_singleton.mp hy]
    obtain ⟨k1, o', k2, k3⟩ := hx _ List.mem_cons_self
    exact ⟨by rw [upd_ne hne]; exact k1, o', k2, x.2.mono s1 k3⟩
  · have hFp : F' q = some (.lst xs) := ex.fe q _ upd_same
    refine hq v (minus F' q) H' ⟨fun a u z => minus_get (ex.fe a u (s1 a u z)) (ne_of_none z h1), ex.fr, ex.dm, fun a hne hF => ?_⟩ (fun a u z => ?_) (hi F' q xs v hFp hr)
    · unfold minus
      by_cases w : a = q
      · rw [if_pos w]
      · rw [if_neg w]
        exact ex.nw a hne (by rw [upd_ne w]; exact hF)
    · unfold minus at z
      by_cases w : a = q
      · rw [if_pos w] at z; cases z
      · rw [if_neg w] at z; exact s' a u z
/-! ## a field that takes a new object -/
section
variable {Z : Bs} {F H F' H' : Hp} {σ σ' : L2.St} {Γ Γ' : Gm} {Ω Ω' Ωr : Om} {K : PySem.W.Frag} {te ta ti tl : TE} {n : L2.St → Hp → Prop} {r : VK} {bk ct : L2.St → Hp → Prop} {R : As} {Rs : List As} {p C D dx0 : Addr} {j : Nat} {E : XK} {f : Str} {fs : List (Str × As)}
theorem st_fldMake {α β : Type} {args : α → Addr → List As} {Oi : α × Addr × Addr → Om} {Oo : α × Addr × Addr → β → Om} {pre : α × Addr × Addr → Prop} {post : α × Addr × Addr → β → Prop} {res : α × Addr × Addr → β → As} {t : TA} (a : α) (c : Ctx Z F H σ Γ Ω) (h : EvA Γ Ω t Rs) (ha : ∀ x, args a x = Rf x :: Rs) (hoi : ∀ x dx, Oi (a, x, dx) = [(x, oI C dx [])]) (hp : ∀ x dx, pre (a, x, dx)) (hr : ∀ x dx b F v, (res (a, x, dx) b).p F v → v = .non)
    (hs : ∀ Ω2, Ev Γ Ω2 ta (Rf p)) (hm : ∀ b x dx, (Oo (a, x, dx) b ++ Ω)[j]? = some (p, oI D dx0 fs)) (hc : Cls K D) (hn : NoAttr K D f) (hl : fs.length < 1000) (hw : Wr Z p)
    (k : ∀ b x dx F' H', post (a, x, dx) b → Ctx Z F' H' σ Γ ((Oo (a, x, dx) b ++ Ω).set j (p, oI D dx0 (putA f (Rf x) fs))) → Same F F' → (∀ y ∈ (Oo (a, x, dx) b).map (·.1), Z.H y = none) → n σ H') : sFld K ta (tMake C (CtG (fun b : α × Addr × Addr => args b.1 b.2.1) Oi pre post res Oo) [] E t) f ⟨n, r, bk, ct⟩ σ H :=
  st_makeG a c h ha hoi hp hr fun b x dx F1 H1 hb c1 s1 hz => hs _ Z F1 H1 σ c1 _ fun y F2 H2 c2 s2 ry => by
    cases ry
    obtain ⟨_, o, h2, vs, eo, hav⟩ := c2.own _ (List.mem_of_getElem? (hm b x dx))
    subst eo
    refine ⟨p, D, dx0, vs, rfl, h2, hc, hn, by rw [hav.length]; exact hl, ?_⟩
    exact k b x dx F2 _ hb (c2.chg (hm b x dx) ⟨_, rfl, hav.put rfl⟩ hw) (s1.trans s2.fe) hz
/-- a display, owned -/
theorem eo_lst0 : EvNw Γ Ω (tLst tNil) (oL []) := fun Z F H σ c Q q => ⟨by decide, fun p hp => q p F _ (c.grow (A := oL []) hp ⟨[], rfl, trivial⟩) (Ext.newH hp) hp⟩
/-- dict(d), d a frozen dict -/
theorem eo_dictC {l : List (Int × As)} (ha : Ev Γ Ω ta (Dc l)) : EvNw Γ Ω (tCB (fun xs H Q => ∃ (a : Addr) (kvs : List (Key × V)), xs = [.ref a] ∧ Rd H a (.dK kvs) ∧ ∀ p, H p = none → Q (.ref p) (upd H p (.dK kvs))) (tCons ta tNil)) (oD l) := fun Z F H σ c Q q =>
  ha Z F H σ c _ fun v F1 H1 c1 s1 rv => by
    obtain ⟨a, kvs, e, h1, h2⟩ := rv
    subst e
    exact ⟨a, kvs, rfl, .inl (c1.sub _ _ h1), fun p hp => q p F1 _ (c1.grow (A := oD l) hp ⟨kvs, rfl, h2⟩) (s1.trans (Ext.newH hp)) (s1.dm _ hp)⟩
theorem all_get {F : Hp} : ∀ {Rs : List As} {xs : List V} {k0 : Nat} {R0 : As}, All F Rs xs → Rs[k0]? = some R0 → ∃ y, xs[k0]? = some y ∧ R0.p F y
  | [], _, _, _, _, h => by simp at h
  | _ :: _, [], _, _, h, _ => h.elim
  | S :: Rs, x :: xs, 0, R0, ha, hk => ⟨x, rfl, by have e : S = R0 := Option.some.inj hk; rw [← e]; exact ha.1⟩
  | S :: Rs, x :: xs, k0 + 1, R0, ha, hk => all_get (k0 := k0) ha.2 hk
/-- x.pop(i), x owned; what was there -/
theorem em_popAt {i : Int} {k0 : Nat} {R0 : As} (h : Ev Γ Ω ta (Rf p)) (hm : Ω[j]? = some (p, oL Rs)) (ei : Ev Γ Ω ti (I i)) (hi0 : -(2 ^ 63) ≤ i) (hi1 : i < 2 ^ 63) (hk : seqIndex? i Rs.length = some k0) (hR : Rs[k0]? = some R0) (hw : Wr Z p) : EvM Z Γ Ω (tBM K "list" rPopAt ta (tCons ti tNil)) R0 (Ω.set j (p, oL (Rs.eraseIdx k0))) := fun F H σ c Q q =>
  h Z F H σ c _ fun v F1 H1 c1 s1 rv => by
    cases rv
    obtain ⟨_, o, h2, xs, eo, hx⟩ := c1.own _ (List.mem_of_getElem? hm)
    refine ⟨.inl ⟨rfl, _, SqL.of (by rw [h2, eo])⟩, ?_⟩
    refine ei Z F1 H1 σ c1 _ fun y F2 H2 c2 s2 ry => ?_
    cases ry
    obtain ⟨_, o, h2, xs, eo, hx⟩ := c2.own _ (List.mem_of_getElem? hm)
    have hkl := (List.getElem?_eq_some_iff.mp hR).1
    have hxl := hx.length
    obtain ⟨y, hy, ry⟩ := all_get hx hR
    refine ⟨p, xs, i, k0, y, rfl, rfl, by rw [h2, eo], hi0, hi1, by rw [hxl]; exact hk, hy, ?_⟩
    exact q y F2 _ (c2.chg hm ⟨_, rfl, All.erase k0 hx⟩ hw) (s1.fe.trans s2.fe) ry
/-- d[i] = e, e changes what is owned (but not d) -/
theorem em_dput {i : Int} {l : List (Int × As)} {tb : TE} (c : Ctx Z F H σ Γ Ω) (e : EvM Z Γ Ω te R Ω') (ha : Ev Γ Ω' ta (Rf p)) (hm : Ω'[j]? = some (p, oD l)) (hb : Ev Γ Ω' tb (I i)) (hl : l.length ≤ 10000000) (k : ∀ F' H', Ctx Z F' H' σ Γ (Ω'.set j (p, oD (putD l i R))) → Same F F' → n σ H') (hw : Wr Z p) : sDPut ta tb te ⟨n, r, bk, ct⟩ σ H :=
  e F H σ c _ fun v F1 H1 c1 s1 rv => ha Z F1 H1 σ c1 _ fun x F2 H2 c2 s2 rx => hb Z F2 H2 σ c2 _ fun y F3 H3 c3 s3 ry => by
    cases rx
    cases ry
    obtain ⟨_, o, h2, kvs, eo, hx⟩ := c3.own _ (List.mem_of_getElem? hm)
    subst eo
    exact ⟨p, _, rfl, DPut.k (k := .inl i) h2 (by rw [hx.length]; exact Nat.lt_of_le_of_lt hl (by decide)), k F3 _ (c3.chg hm ⟨_, rfl, hx.put (R.mono (s2.trans s3).fe rv)⟩ hw) (s1.trans (s2.trans s3).fe)⟩
end
/-! ## a def with one default that is None, given all its arguments -/
structure TxF (K : PySem.W.Frag) (mg : Str → Option Value) (x : Str) (st : Stmt) (ps : List Str) : Prop where
  ex : ∃ f fd, FunD K x x (defArgs st) (defBody st) (defScope st) [.non] [] f fd ∧ mg x = some (.ref f) ∧ Binds K fd ps []
section
variable {P : Program} {w : World} {K : PySem.W.Frag} {mg : Str → Option Value} {base : Heap}
theorem TxF.ok {x : Str} {st : Stmt} {N ps : List Str} {k : Nat} {sp : Sp} (T : TxF K mg x st ps) (S : FnScope N ps (defScope st)) (len : ∀ vs H Q E, sp vs H Q E → vs.length = ps.length)
    (hbody : ∀ (f : Addr) (cdv : Value) (A : Around) (outer : List Env) (s : Shared) (H : Hp) (vs : List V) (Q : VK) (E : XK), Room k (A.deeper (envOfC x (defScope st) s.heap.objs.size f cdv)) → sp vs H Q E →
      ∃ t, PSs (cxOf CX0 P w K mg base N x (defScope st) f cdv A outer s H E).nox (defBody st) t ∧ t { nx := fun _ H' => Q .non H', rt := Q } (L2.start N vs) H) : Dn P w K mg base (k + 1) x ps sp := by
  obtain ⟨f, fd, F, m, b⟩ := T.ex
  have F' := F
  obtain ⟨oc, od, d0, kV, doc, pm, an, cdv, ct, osl, e, lk, _⟩ := F.ex
  refine ⟨f, fd, m, F'.kp, b, ⟨oc, od, osl, by subst e; exact lk⟩, FnOk_x (F'.ok (CX := CX0) S len fun cdv A outer s H vs Q E hr hsp => ?_)⟩
  obtain ⟨t, h, q⟩ := hbody f cdv A outer s H vs Q E hr hsp
  exact ⟨t, h.nox, q⟩
theorem tx_mkf {x : Str} {st : Stmt} {f T : Addr} {o1 : Value} {o2 : Option Addr} {o4 : Array (Option Value)} {nn : Nat} {oc : Value} {od an : Option Addr} {osl : Array (Option Value)} {kV doc pm cdv ct : Value} {ps : List Str} {h : Heap} (X : K.In h) (G : h.Ns mainGlobals mg)
    (a : PySem.W.nsIn K mainGlobals x = some (some (.ref f)))
    (l : K.lookup f = some ⟨oc, od, .func (PySem.W.fnOf x x (defArgs st) (defBody st) (defScope st) (.ref T) kV doc pm an cdv ct), osl⟩)
    (c : PySem.W.codeIn K cdv x = true) (kk : PySem.W.keepIn K (.ref f) = true) (lT : K.lookup T = some ⟨o1, o2, .seq #[.none] nn, o4⟩)
    (hb : ∀ (T : Addr) (kV doc pm : Value) (an : Option Addr) (cdv ct : Value) (us its : List Value), us.length = ps.length → its.length = 1 →
      ∃ k, bindArgs (PySem.W.fnOf x x (defArgs st) (defBody st) (defScope st) (.ref T) kV doc pm an cdv ct) ⟨us, []⟩ = seqItems? (.ref T) >>= k ∧ k (some its.toArray) = pure (ps.zip (us ++ its.drop 1))) : TxF K mg x st ps := by
  have F : FunD K x x (defArgs st) (defBody st) (defScope st) [.non] [] f (PySem.W.fnOf x x (defArgs st) (defBody st) (defScope st) (.ref T) kV doc pm an cdv ct) :=
    ⟨⟨oc, od, .ref T, kV, doc, pm, an, cdv, ct, osl, rfl, l, c, .inr ⟨(fun z => by cases z), T, _, [.none], nn, rfl, lT, rfl, .cons rfl .nil⟩, .inl rfl⟩, kk⟩
  obtain ⟨ds, hv, b⟩ := F.binds1 (ps := ps) ps.length 1 (fun z => by cases z) rfl hb
  have e : ds = [] := by cases hv; rfl
  rw [e] at b
  exact ⟨f, _, F, PySem.W.mg_of X G a, b⟩
end
end Y

namespace Y
open PySem L2 PySem.Spec
open PyProof.Rows (envOfC)
/-! ## sorted(xs), ints; list(range(n)) -/
section
variable {Z : Bs} {F H F' H' : Hp} {σ σ' : L2.St} {Γ Γ' : Gm} {Ω Ω' Ωr : Om} {K : PySem.W.Frag} {te ta ti tl : TE} {n : L2.St → Hp → Prop} {r : VK} {bk ct : L2.St → Hp → Prop} {R : As} {Rs : List As} {p : Addr} {i j : Nat}
theorem ints_eq {a b : List Int} (h : a.Perm b) (h1 : a.Pairwise (· ≤ ·)) (h2 : b.Pairwise (· ≤ ·)) : a = b := List.Perm.eq_of_pairwise (fun x y _ _ h h' => Int.le_antisymm h h') h1 h2 h
theorem allI {F : Hp} : ∀ ns : List Int, All F (ns.map fun n => I n) (ns.map V.int)
  | [] => trivial
  | _ :: ns => ⟨rfl, allI ns⟩
theorem eo_sorted {α : Type} {xs : List α} {g : α → Int} {ns : List Int} {ta : TA} (ha : EvA Γ Ω ta [Ls K (xs.map fun x => I (g x))]) (h1 : ns.Perm (xs.map g)) (h2 : ns.Pairwise (· ≤ ·)) : EvNw Γ Ω (tCB (rSortedI K) ta) (oL (ns.map fun n => I n)) := fun Z F H σ c Q q =>
  ha Z F H σ c _ fun vs F1 H1 c1 s1 rs => by
    obtain ⟨v, rfl, a, ys, e, hs, hl⟩ := rs.one
    cases e
    have z := all_map hl
    subst z
    refine ⟨a, xs.map g, rfl, c1.sub.seq hs, fun ns' p hp hw hn => ?_⟩
    have e : ns' = ns := ints_eq (hp.trans h1.symm) hw h2
    subst e
    exact q p F1 _ (c1.grow (A := oL (ns'.map fun n => I n)) hn ⟨_, rfl, allI ns'⟩) (s1.trans (Ext.newH hn)) (s1.dm _ hn)
theorem eo_listRg {n : Int} {ta : TE} (ha : Ev Γ Ω ta (I n)) (h0 : 0 ≤ n) (h1 : n ≤ 16777216) : EvNw Γ Ω (tLstRg (tRg1 ta)) (oL ((List.range n.toNat).map fun k : Nat => I (k : Int))) := fun Z F H σ c Q q =>
  ha Z F H σ c _ fun v F1 H1 c1 s1 rv => by
    have rv : v = .int n := rv
    subst rv
    refine ⟨n, rfl, RgOk.of_le (Int.le_refl _) h1 (by decide) h0, fun p hp => ?_⟩
    refine q p F1 _ (c1.grow (A := oL ((List.range n.toNat).map fun k : Nat => I (k : Int))) hp ⟨_, rfl, ?_⟩) (s1.trans (Ext.newH hp)) (s1.dm _ hp)
    unfold rgV
    rw [Int.sub_zero]
    have : ∀ l : List Nat, All F1 (l.map fun k : Nat => I (k : Int)) (l.map fun i : Nat => V.int (0 + (i : Int))) := fun l => by
      induction l with
      | nil => exact trivial
      | cons x l ih => exact ⟨by show V.int (0 + (x : Int)) = V.int (x : Int); rw [Int.zero_add], ih⟩
    exact this _
theorem rc_minL {α : Type} {xs : List α} {g : α → Int} {m : Int} (h1 : m ∈ xs.map g) (h2 : ∀ y ∈ xs.map g, m ≤ y) : RC (rMin K) [Ls K (xs.map fun x => I (g x))] (I m) := fun F H vs s h Q q => by
  obtain ⟨v, rfl, a, ys, e, hs, hl⟩ := h.one
  cases e
  have z := all_map hl
  subst z
  refine ⟨a, xs.map g, rfl, s.seq hs, List.length_pos_of_mem h1, fun m' k1 k2 => ?_⟩
  have : m' = m := Int.le_antisymm (k2 m h1) (h2 m' k1)
  subst this
  exact q _ F H (Ext.refl _ _ _) s rfl
end
/-! ## a def with one default that is None, called with or without -/
structure TxG (K : PySem.W.Frag) (mg : Str → Option Value) (x : Str) (st : Stmt) (ps : List Str) : Prop where
  ex : ∃ f fd ds, FunD K x x (defArgs st) (defBody st) (defScope st) [.non] [] f fd ∧ mg x = some (.ref f) ∧ Binds K fd ps [] ∧ Vals [V.non] ds ∧ Binds K fd ps ds
structure DnG (P : Program) (w : World) (K : PySem.W.Frag) (mg : Str → Option Value) (base : Heap) (k : Nat) (x : Str) (ps : List Str) (sp : Sp) : Prop where
  dn : Dn P w K mg base k x ps sp
  ex : ∃ f fd ds, mg x = some (.ref f) ∧ PySem.W.keepIn K (.ref f) = true ∧ Vals [V.non] ds ∧ Binds K fd ps ds ∧ FnOk P w K mg base (L2N.CX P w) k f fd ps sp
section
variable {P : Program} {w : World} {K : PySem.W.Frag} {mg : Str → Option Value} {base : Heap}
theorem TxG.ok {x : Str} {st : Stmt} {N ps : List Str} {k : Nat} {sp : Sp} (T : TxG K mg x st ps) (S : FnScope N ps (defScope st)) (len : ∀ vs H Q E, sp vs H Q E → vs.length = ps.length)
    (hbody : ∀ (f : Addr) (cdv : Value) (A : Around) (outer : List Env) (s : Shared) (H : Hp) (vs : List V) (Q : VK) (E : XK), Room k (A.deeper (envOfC x (defScope st) s.heap.objs.size f cdv)) → sp vs H Q E →
      ∃ t, PSs (cxOf CX0 P w K mg base N x (defScope st) f cdv A outer s H E).nox (defBody st) t ∧ t { nx := fun _ H' => Q .non H', rt := Q } (L2.start N vs) H) : DnG P w K mg base (k + 1) x ps sp := by
  obtain ⟨f, fd, ds, F, m, b, hv, b1⟩ := T.ex
  have F' := F
  obtain ⟨oc, od, d0, kV, doc, pm, an, cdv, ct, osl, e, lk, _⟩ := F.ex
  have fn : FnOk P w K mg base (L2N.CX P w) (k + 1) f fd ps sp := FnOk_x (F'.ok (CX := CX0) S len fun cdv A outer s H vs Q E hr hsp => by
    obtain ⟨t, h, q⟩ := hbody f cdv A outer s H vs Q E hr hsp
    exact ⟨t, h.nox, q⟩)
  exact ⟨⟨f, fd, m, F'.kp, b, ⟨oc, od, osl, by subst e; exact lk⟩, fn⟩, ⟨f, fd, ds, m, F'.kp, hv, b1, fn⟩⟩
theorem tx_mkG {x : Str} {st : Stmt} {f T : Addr} {o1 : Value} {o2 : Option Addr} {o4 : Array (Option Value)} {nn : Nat} {oc : Value} {od an : Option Addr} {osl : Array (Option Value)} {kV doc pm cdv ct : Value} {ps : List Str} {h : Heap} (X : K.In h) (G : h.Ns mainGlobals mg)
    (a : PySem.W.nsIn K mainGlobals x = some (some (.ref f)))
    (l : K.lookup f = some ⟨oc, od, .func (PySem.W.fnOf x x (defArgs st) (defBody st) (defScope st) (.ref T) kV doc pm an cdv ct), osl⟩)
    (c : PySem.W.codeIn K cdv x = true) (kk : PySem.W.keepIn K (.ref f) = true) (lT : K.lookup T = some ⟨o1, o2, .seq #[.none] nn, o4⟩)
    (hb : ∀ (T : Addr) (kV doc pm : Value) (an : Option Addr) (cdv ct : Value) (us its : List Value), us.length = ps.length → its.length = 1 →
      ∃ k, bindArgs (PySem.W.fnOf x x (defArgs st) (defBody st) (defScope st) (.ref T) kV doc pm an cdv ct) ⟨us, []⟩ = seqItems? (.ref T) >>= k ∧ k (some its.toArray) = pure (ps.zip (us ++ its.drop 1)))
    {m : Nat} (hm : m + 1 = ps.length)
    (hb1 : ∀ (T : Addr) (kV doc pm : Value) (an : Option Addr) (cdv ct : Value) (us its : List Value), us.length = m → its.length = 1 →
      ∃ k, bindArgs (PySem.W.fnOf x x (defArgs st) (defBody st) (defScope st) (.ref T) kV doc pm an cdv ct) ⟨us, []⟩ = seqItems? (.ref T) >>= k ∧ k (some its.toArray) = pure (ps.zip (us ++ its.drop 0))) : TxG K mg x st ps := by
  have F : FunD K x x (defArgs st) (defBody st) (defScope st) [.non] [] f (PySem.W.fnOf x x (defArgs st) (defBody st) (defScope st) (.ref T) kV doc pm an cdv ct) :=
    ⟨⟨oc, od, .ref T, kV, doc, pm, an, cdv, ct, osl, rfl, l, c, .inr ⟨(fun z => by cases z), T, _, [.none], nn, rfl, lT, rfl, .cons rfl .nil⟩, .inl rfl⟩, kk⟩
  obtain ⟨ds, hv, b⟩ := F.binds1 (ps := ps) ps.length 1 (fun z => by cases z) rfl hb
  have e : ds = [] := by cases hv; rfl
  rw [e] at b
  obtain ⟨ds1, hv1, b1⟩ := F.binds1 (ps := ps) m 0 (fun z => by cases z) hm hb1
  exact ⟨f, _, ds1, F, PySem.W.mg_of X G a, b, hv1, b1⟩
end
section
variable {X : Cx} {k : Nat} {ps : List Str} {sp : Sp} {x : Str} {p pos : Pos} {e : Expr} {es : List Expr} {t : TA}
/-- a call that leaves the default out -/
theorem pe_dG (D : DnG X.prog X.w X.K X.mg X.base k x ps sp) (hr : Room k X.A) (hg : Gl X x) (ha : PA X (e :: es) t) (hdb : (x == ("__debug__" : Str)) = false := by decide)
    (he : starEach (e :: es) X.env = (false, eval e X.env) :: starEach es X.env := by rfl) (hpl : (backTo pos (starEach es X.env)).any (·.1) = false := by rfl) :
    PE X (.Call (.Name x p) (e :: es) [] pos) (tCall sp [.non] E0 t) := by
  obtain ⟨f, fd, ds, m, kp, hv, b, G⟩ := D.ex
  exact pe_call G hr hg m kp b hv passL ha hdb he hpl
end
/-! ## a def that hands out several new things -/
section
variable {Z : Bs} {F H F' H' : Hp} {σ σ' : L2.St} {Γ Γ' : Gm} {Ω Ω' Ωr : Om} {K : PySem.W.Frag} {n : L2.St → Hp → Prop} {r : VK} {bk ct : L2.St → Hp → Prop} {Rs : List As} {i : Nat}
theorem st_callG {α β : Type} {args : α → List As} {pre : α → Prop} {post : α → β → Prop} {res : α → β → As} {Oo : α → β → Om} {t : TA} {dvs : List V} (a : α) (c : Ctx Z F H σ Γ Ω) (h : EvA Γ Ω t Rs) (ha : ∀ F vs, All F Rs vs → All F (args a) (vs ++ dvs)) (hp : pre a)
    (k : ∀ b F' H' σ', post a b → Ctx Z F' H' σ' (Γ.set i (some (res a b))) (Oo a b ++ Ω) → Same F F' → (∀ y ∈ (Oo a b).map (·.1), Z.H y = none) → n σ' H') : tAsg (tCall (CtG args (fun _ => []) pre post res Oo) dvs E0 t) (gName i) ⟨n, r, bk, ct⟩ σ H :=
  h Z F H σ c _ fun vs F1 H1 c1 s1 rs => by
    refine ⟨a, F1, c1.sub, ha _ _ rs, fun y hy => absurd hy List.not_mem_nil, List.nodup_nil, hp, fun b v F3 H3 hb e3 s3 rv ow nd hn => ?_⟩
    have c3 := c1.changedG (Ωi := []) (Ωo := Oo a b) (Ωr := Ω) e3 s3 ow nd hn (fun y hy => absurd hy List.not_mem_nil)
    refine k b F3 H3 _ hb (c3.set i rv) (s1.fe.trans e3.fe) fun y hy => ?_
    rcases hn y hy with l | l
    · exact absurd l List.not_mem_nil
    · exact c1.ext.dm _ l
end
/-! ## an owned list read as a frozen one, wherever its name stands -/
section
variable {Γ Γ' : Gm} {Ω : Om} {K : PySem.W.Frag} {te : TE} {tt : TT} {Rs : List As}
theorem ev_peekS {p : Addr} {j : Nat} {w : V} (hm : Ω[j]? = some (p, oL Rs)) (hg : ∀ (F : Hp) (σ : L2.St), Sat F Γ σ → (Ls K Rs).p F (.ref p) → Sat F Γ' σ) (h : Ev Γ' (Ω.eraseIdx j) te (Cst w)) : Ev Γ Ω te (Cst w) := fun Z F H σ c Q q => by
  obtain ⟨h1, o, h2, xs, eo, hx⟩ := c.own _ (List.mem_of_getElem? hm)
  subst eo
  dsimp only at h1 h2
  have s : Same F (upd F p (.lst xs)) := fun a u z => by rw [upd_ne (ne_of_none z h1)]; exact z
  have hsub : Same (upd F p (.lst xs)) H := fun a u z => by
    by_cases e : a = p
    · rw [e] at z ⊢; rw [upd_same] at z; rw [← z]; exact h2
    · rw [upd_ne e] at z; exact c.sub a u z
  have other : ∀ x ∈ Ω.eraseIdx j, x ∈ Ω ∧ x.1 ≠ p := fun x hx => by
    have hx' := List.mem_of_mem_eraseIdx hx
    refine ⟨hx', fun z => ?_⟩
    obtain ⟨k, hk⟩ := List.getElem?_of_mem hx
    rw [List.getElem?_eraseIdx] at hk
    split at hk
    · have a1 : (Ω.map (·.1))[k]? = some p := by rw [List.getElem?_map, hk, ← z]; rfl
      have a2 : (Ω.map (·.1))[j]? = some p := by rw [List.getElem?_map, hm]; rfl
      have := nd_ix c.nd a1 a2
      omega
    · have a1 : (Ω.map (·.1))[k + 1]? = some p := by rw [List.getElem?_map, hk, ← z]; rfl
      have a2 : (Ω.map (·.1))[j]? = some p := by rw [List.getElem?_map, hm]; rfl
      have := nd_ix c.nd a1 a2
      omega
  have c1 : Ctx ⟨upd F p (.lst xs), H, [], upd F p (.lst xs), (Ω.eraseIdx j).map (·.1)⟩ (upd F p (.lst xs)) H σ Γ' (Ω.eraseIdx j) := by
    refine ⟨?_, hsub, fun x hx => ?_, ((List.eraseIdx_sublist Ω j).map _).nodup c.nd, fun x hx => .inr (.inr (List.mem_map.mpr ⟨x, hx, rfl⟩)), Ext.refl _ _ _, Same.refl _⟩
    · exact hg _ _ (c.sat.mono s) ⟨p, xs, rfl, SqL.of upd_same, hx.mono s⟩
    · obtain ⟨hx1, hx2⟩ := other x hx
      obtain ⟨k1, o', k2, k3⟩ := c.own x hx1
      exact ⟨by rw [upd_ne hx2]; exact k1, o', k2, x.2.mono s k3⟩
  refine h _ _ _ σ c1 Q fun v F3 H3 c3 e3 rv => ?_
  have e : Ext [] F H (fun b => if b = p then none else F3 b) H3 := by
    refine ⟨fun a u z => ?_, e3.fr, e3.dm, fun a g1 g2 => ?_⟩
    · show (if a = p then none else F3 a) = some u
      rw [if_neg (ne_of_none z h1)]
      exact e3.fe a u (s a u z)
    · show (if a = p then none else F3 a) = none
      by_cases z : a = p
      · rw [if_pos z]
      · rw [if_neg z]
        exact e3.nw a g1 (by rw [upd_ne z]; exact g2)
  have s' : Same (fun b => if b = p then none else F3 b) H3 := fun a u z => by
    by_cases w : a = p
    · have z : (if a = p then none else F3 a) = some u := z
      rw [if_pos w] at z; cases z
    · have z : (if a = p then none else F3 a) = some u := z
      rw [if_neg w] at z; exact c3.sub a u z
  exact q v _ H3 (c.step e s') e rv
theorem et_peekS {p : Addr} {j : Nat} {b : Bool} (hm : Ω[j]? = some (p, oL Rs)) (hg : ∀ (F : Hp) (σ : L2.St), Sat F Γ σ → (Ls K Rs).p F (.ref p) → Sat F Γ' σ) (h : EvT Γ' (Ω.eraseIdx j) tt b) : EvT Γ Ω tt b := fun Z F H σ c Q q =>
  ev_peekS (K := K) (te := fun σ H Q => tt σ H (fun b H' => Q (.bl b) H')) (w := .bl b) hm hg (fun Z F H σ c Q q => h Z F H σ c _ (fun F' H' c' e => q _ F' H' c' e rfl)) Z F H σ c (fun v H' => match v with | .bl b' => Q b' H' | _ => False) (fun v F' H' c' e rv => by
    cases rv
    exact q F' H' c' e)
/-- a pair in a slot: its first, its second seen frozen -/
theorem sat_pair {F : Hp} {Γ : Gm} {σ : L2.St} {i : Nat} {R S R' S' : As} (h : Sat F Γ σ) (hi : Γ[i]? = some (some (Tp K [R, S]))) (h1 : ∀ v, R.p F v → R'.p F v) (h2 : ∀ v, S.p F v → S'.p F v) : Sat F (Γ.set i (some (Tp K [R', S']))) σ := by
  obtain ⟨v, e1, e2⟩ := h.get hi
  obtain ⟨a, vs, e, hs, hl⟩ := e2
  obtain ⟨x, y, ev, r1, r2⟩ := hl.two
  subst ev
  have z := h.set (R := Tp K [R', S']) (v := v) ⟨a, _, e, hs, h1 x r1, h2 y r2, trivial⟩ i
  rw [set_same e1] at z
  exact z
theorem sat_fst {F : Hp} {Γ : Gm} {σ : L2.St} {i : Nat} {p : Addr} {S : As} (h : Sat F Γ σ) (hi : Γ[i]? = some (some (Tp K [Rf p, S]))) (h1 : (Ls K Rs).p F (.ref p)) : Sat F (Γ.set i (some (Tp K [Ls K Rs, S]))) σ := sat_pair h hi (fun v r => by have r : v = .ref p := r; rw [r]; exact h1) (fun _ r => r)
theorem sat_snd {F : Hp} {Γ : Gm} {σ : L2.St} {i : Nat} {p : Addr} {R : As} (h : Sat F Γ σ) (hi : Γ[i]? = some (some (Tp K [R, Rf p]))) (h1 : (Ls K Rs).p F (.ref p)) : Sat F (Γ.set i (some (Tp K [R, Ls K Rs]))) σ := sat_pair h hi (fun _ r => r) (fun v r => by have r : v = .ref p := r; rw [r]; exact h1)
end
/-! ## return (e1, e2), both new and owned -/
section
variable {Z : Bs} {F H : Hp} {σ : L2.St} {Γ : Gm} {Ω : Om} {K : PySem.W.Frag} {ta tb : TE} {n : L2.St → Hp → Prop} {r : VK} {bk ct : L2.St → Hp → Prop} {A B : OA}
theorem st_retT2 (c : Ctx Z F H σ Γ Ω) (e1 : EvNw Γ Ω ta A) (e2 : ∀ p, EvNw Γ ((p, A) :: Ω) tb B) (k : ∀ p q v F' H', Ctx Z F' H' σ Γ ((q, B) :: (p, A) :: Ω) → Same F F' → (Tp K [Rf p, Rf q]).p F' v → Z.H p = none → Z.H q = none → r v H') : tRet (tTup (tCons ta (tCons tb tNil))) ⟨n, r, bk, ct⟩ σ H :=
  e1 Z F H σ c _ fun p F1 H1 c1 s1 n1 => e2 p Z F1 H1 σ c1 _ fun q F2 H2 c2 s2 n2 => ⟨Nat.le_of_lt (small1000 (show 2 ≤ 1000 by decide)), fun a ha => by
    obtain ⟨e, s⟩ := Ext.new (o := .tup [.ref p, .ref q]) c2.sub ha
    exact k p q (.ref a) _ _ (c2.step e s) (s1.fe.trans (s2.fe.trans e.fe)) ⟨a, _, rfl, SqT.of upd_same, rfl, rfl, trivial⟩ (c.ext.dm _ n1) (c1.ext.dm _ n2)⟩
end
end Y

namespace Y
open PySem L2
/-! ## dicts by texts -/
def AllS (F : Hp) : List (Str × As) → List (Key × V) → Prop
  | [], [] => True
  | (k, R) :: l, (q, v) :: kvs => q = .inr k ∧ R.p F v ∧ AllS F l kvs
  | _, _ => False
theorem AllS.mono {F F' : Hp} (s : Same F F') : ∀ {l : List (Str × As)} {kvs : List (Key × V)}, AllS F l kvs → AllS F' l kvs
  | [], [], _ => trivial
  | (k, R) :: l, (q, v) :: kvs, h => ⟨h.1, R.mono s h.2.1, AllS.mono s h.2.2⟩
  | [], _ :: _, h => h.elim
  | _ :: _, [], h => h.elim
theorem AllS.length {F : Hp} : ∀ {l : List (Str × As)} {kvs : List (Key × V)}, AllS F l kvs → kvs.length = l.length
  | [], [], _ => rfl
  | (k, R) :: l, (q, v) :: kvs, h => congrArg (· + 1) (AllS.length h.2.2)
  | [], _ :: _, h => h.elim
  | _ :: _, [], h => h.elim
/-- what stands at k -/
def getS {β : Type} (k : Str) : List (Str × β) → Option β
  | [] => none
  | (i, y) :: l => if i = k then some y else getS k l
def hasS {β : Type} (k : Str) : List (Str × β) → Bool
  | [] => false
  | (i, _) :: l => decide (i = k) || hasS k l
def putS {β : Type} (l : List (Str × β)) (k : Str) (y : β) : List (Str × β) := if hasS k l then l.map fun p => if p.1 = k then (p.1, y) else p else l ++ [(k, y)]
theorem getS_map {β γ : Type} {g : β → γ} (k : Str) : ∀ l : List (Str × β), getS k (l.map fun p => (p.1, g p.2)) = (getS k l).map g
  | [] => rfl
  | (i, y) :: l => by
    show (if i = k then some (g y) else getS k (l.map fun p => (p.1, g p.2))) = (if i = k then some y else getS k l).map g
    split
    · rfl
    · exact getS_map k l
theorem hasS_map {β γ : Type} {g : β → γ} (k : Str) : ∀ l : List (Str × β), hasS k (l.map fun p => (p.1, g p.2)) = hasS k l
  | [] => rfl
  | (i, y) :: l => by
    show (decide (i = k) || hasS k (l.map fun p => (p.1, g p.2))) = (decide (i = k) || hasS k l)
    rw [hasS_map k l]
theorem putS_map {β γ : Type} {g : β → γ} {k : Str} {y : β} {l : List (Str × β)} : putS (l.map fun p => (p.1, g p.2)) k (g y) = (putS l k y).map fun p => (p.1, g p.2) := by
  unfold putS
  rw [hasS_map]
  split
  · rw [List.map_map, List.map_map]
    refine List.map_congr_left fun p _ => ?_
    simp only [Function.comp]
    split <;> rfl
  · rw [List.map_append]; rfl
theorem hasS_get {β : Type} (k : Str) : ∀ l : List (Str × β), hasS k l = (getS k l).isSome
  | [] => rfl
  | (i, y) :: l => by
    show (decide (i = k) || hasS k l) = (if i = k then some y else getS k l).isSome
    by_cases h : i = k
    · rw [if_pos h, decide_eq_true h]; rfl
    · rw [if_neg h, decide_eq_false h, hasS_get k l]; rfl
theorem getS_put {β : Type} {k j : Str} {y : β} : ∀ {l : List (Str × β)}, getS j (putS l k y) = if j = k then some y else getS j l := fun {l} => by
  have h1 : ∀ l : List (Str × β), getS j (l.map fun p => if p.1 = k then (p.1, y) else p) = if j = k then (getS j l).map (fun _ => y) else getS j l := fun l => by
    induction l with
    | nil => simp [getS]
    | cons p l ih =>
      obtain ⟨i, z⟩ := p
      rw [List.map_cons]
      by_cases h : i = k
      · rw [if_pos h]
        show (if i = j then some y else getS j _) = _
        rw [ih]
        by_cases hj : j = k
        · rw [if_pos hj, if_pos hj, if_pos (h.trans hj.symm)]
          show some y = (if i = j then some z else getS j l).map _
          rw [if_pos (h.trans hj.symm)]; rfl
        · have hij : ¬ i = j := fun e => hj (e.symm.trans h)
          rw [if_neg hj, if_neg hj, if_neg hij]
          show getS j l = if i = j then some z else getS j l
          rw [if_neg hij]
      · rw [if_neg h]
        show (if i = j then some z else getS j _) = _
        rw [ih]
        by_cases hj : j = k
        · have hij : ¬ i = j := fun e => h (e.trans hj)
          rw [if_neg hij, if_pos hj, if_pos hj]
          show _ = (if i = j then some z else getS j l).map _
          rw [if_neg hij]
        · rw [if_neg hj, if_neg hj]
          show _ = if i = j then some z else getS j l
          rfl
  have h2 : ∀ l : List (Str × β), getS j (l ++ [(k, y)]) = (getS j l).or (if k = j then some y else none) := fun l => by
    induction l with
    | nil => rfl
    | cons p l ih =>
      obtain ⟨i, z⟩ := p
      show (if i = j then some z else getS j (l ++ [(k, y)])) = (if i = j then some z else getS j l).or _
      split
      · rfl
      · exact ih
  unfold putS
  split
  · rename_i h
    rw [h1]
    split
    · rename_i e
      subst e
      rw [hasS_get] at h
      cases z : getS j l with
      | none => rw [z] at h; cases h
      | some x => rfl
    · rfl
  · rename_i h
    rw [h2]
    by_cases e : j = k
    · subst e
      have hn : getS j l = none := by
        rw [hasS_get] at h
        cases z : getS j l with
        | none => rfl
        | some x => rw [z] at h; exact absurd rfl h
      rw [hn]; simp
    · rw [if_neg (fun z => e z.symm), if_neg e, Option.or_none]
theorem AllS.get {F : Hp} {k : Str} : ∀ {l : List (Str × As)} {kvs : List (Key × V)}, AllS F l kvs → (∀ R, getS k l = some R → ∃ v, valV kvs (.inr k) = some v ∧ R.p F v) ∧ (getS k l = none → valV kvs (.inr k) = none)
  | [], [], _ => ⟨fun R h => (by cases h), fun _ => rfl⟩
  | (i, R0) :: l, (q, v) :: kvs, ⟨h1, h2, h3⟩ => by
    obtain ⟨g1, g2⟩ := AllS.get (k := k) h3
    subst h1
    by_cases e : i = k
    · subst e
      rw [valV_pos rfl]
      have e2 : getS i ((i, R0) :: l) = some R0 := if_pos rfl
      rw [e2]
      exact ⟨fun R h => by cases h; exact ⟨v, rfl, h2⟩, fun h => by cases h⟩
    · rw [valV_neg (fun z => e (Sum.inr.inj z))]
      have e2 : getS k ((i, R0) :: l) = getS k l := if_neg e
      rw [e2]
      exact ⟨g1, g2⟩
  | [], _ :: _, h => h.elim
  | _ :: _, [], h => h.elim
theorem AllS.has {F : Hp} {k : Str} : ∀ {l : List (Str × As)} {kvs : List (Key × V)}, AllS F l kvs → (kvs.any fun kv => decide (kv.1 = .inr k)) = hasS k l
  | [], [], _ => rfl
  | (i, R0) :: l, (q, v) :: kvs, ⟨h1, h2, h3⟩ => by
    subst h1
    show (decide (Sum.inr i = (Sum.inr k : Key)) || kvs.any _) = (decide (i = k) || hasS k l)
    rw [AllS.has h3]
    congr 1
    exact decide_eq_decide.mpr ⟨fun z => Sum.inr.inj z, fun z => by rw [z]⟩
  | [], _ :: _, h => h.elim
  | _ :: _, [], h => h.elim
theorem AllS.put {F : Hp} {k : Str} {R : As} {v : V} (q : R.p F v) {l : List (Str × As)} {kvs : List (Key × V)} (h : AllS F l kvs) : AllS F (putS l k R) (putK kvs (.inr k) v) := by
  have h1 : ∀ {l : List (Str × As)} {kvs : List (Key × V)}, AllS F l kvs → AllS F (l.map fun p => if p.1 = k then (p.1, R) else p) (kvs.map fun kv => if kv.1 = (.inr k : Key) then (kv.1, v) else kv) := fun {l} => by
    induction l with
    | nil =>
      intro kvs h
      cases kvs with
      | nil => exact trivial
      | cons _ _ => exact h.elim
    | cons p l ih =>
      intro kvs h
      cases kvs with
      | nil => exact h.elim
      | cons kv kvs =>
        obtain ⟨i, R0⟩ := p
        obtain ⟨a, w⟩ := kv
        obtain ⟨a1, a2, a3⟩ := h
        subst a1
        rw [List.map_cons, List.map_cons]
        by_cases e : i = k
        · rw [if_pos e, if_pos (by rw [e])]
          exact ⟨rfl, q, ih a3⟩
        · rw [if_neg e, if_neg (fun z => e (Sum.inr.inj z))]
          exact ⟨rfl, a2, ih a3⟩
  have h2 : ∀ {l : List (Str × As)} {kvs : List (Key × V)}, AllS F l kvs → AllS F (l ++ [(k, R)]) (kvs ++ [(.inr k, v)]) := fun {l} => by
    induction l with
    | nil =>
      intro kvs h
      cases kvs with
      | nil => exact ⟨rfl, q, trivial⟩
      | cons _ _ => exact h.elim
    | cons p l ih =>
      intro kvs h
      cases kvs with
      | nil => exact h.elim
      | cons kv kvs => exact ⟨h.1, h.2.1, ih h.2.2⟩
  unfold putS putK
  rw [h.has]
  split
  · exact h1 h
  · exact h2 h
theorem len_putS {β : Type} (l : List (Str × β)) (k : Str) (y : β) : (putS l k y).length ≤ l.length + 1 := by
  unfold putS
  split
  · rw [List.length_map]; omega
  · rw [List.length_append]; exact Nat.le_refl _
def delS {β : Type} (l : List (Str × β)) (k : Str) : List (Str × β) := l.filter fun p => decide (p.1 ≠ k)
theorem delS_map {β γ : Type} {g : β → γ} {k : Str} {l : List (Str × β)} : delS (l.map fun p => (p.1, g p.2)) k = (delS l k).map fun p => (p.1, g p.2) := by
  unfold delS
  rw [List.filter_map]; rfl
theorem getS_del {β : Type} {k j : Str} : ∀ {l : List (Str × β)}, getS j (delS l k) = if j = k then none else getS j l
  | [] => by simp [delS, getS]
  | (i, y) :: l => by
    have ih := getS_del (k := k) (j := j) (l := l)
    unfold delS at ih ⊢
    rw [List.filter_cons]
    show getS j (if decide (i ≠ k) = true then (i, y) :: l.filter (fun p => decide (p.1 ≠ k)) else l.filter (fun p => decide (p.1 ≠ k))) = if j = k then none else (if i = j then some y else getS j l)
    by_cases h : i = k
    · rw [if_neg (by simp [h]), ih]
      by_cases hj : j = k
      · rw [if_pos hj, if_pos hj]
      · rw [if_neg hj, if_neg hj, if_neg (fun z => hj (z.symm.trans h))]
    · rw [if_pos (by simp [h])]
      show (if i = j then some y else getS j _) = _
      rw [ih]
      by_cases hj : j = k
      · rw [if_pos hj, if_pos hj, if_neg (fun z => h (z.trans hj))]
      · rw [if_neg hj, if_neg hj]
theorem AllS.del {F : Hp} {k : Str} : ∀ {l : List (Str × As)} {kvs : List (Key × V)}, AllS F l kvs → AllS F (delS l k) (dropK kvs (.inr k))
  | [], [], _ => trivial
  | (i, R) :: l, (q, v) :: kvs, ⟨h1, h2, h3⟩ => by
    subst h1
    have ih := AllS.del (k := k) h3
    unfold delS dropK at ih ⊢
    rw [List.filter_cons, List.filter_cons]
    by_cases h : i = k
    · rw [if_neg (by simp [h]), if_neg (by simp [h])]
      exact ih
    · rw [if_pos (by simp [h]), if_pos (by simp [h])]
      exact ⟨rfl, h2, ih⟩
  | [], _ :: _, h => h.elim
  | _ :: _, [], h => h.elim
theorem AllS.keys {F : Hp} : ∀ {l : List (Str × As)} {kvs : List (Key × V)}, AllS F l kvs → kvs.map (fun kv => kV kv.1) = l.map fun p => V.str p.1
  | [], [], _ => rfl
  | (i, R) :: l, (q, v) :: kvs, ⟨h1, h2, h3⟩ => by
    subst h1
    rw [List.map_cons, List.map_cons, AllS.keys h3]; rfl
  | [], _ :: _, h => h.elim
  | _ :: _, [], h => h.elim
theorem AllS.vals {F : Hp} : ∀ {l : List (Str × As)} {kvs : List (Key × V)}, AllS F l kvs → All F (l.map (·.2)) (kvs.map (·.2))
  | [], [], _ => trivial
  | (i, R) :: l, (q, v) :: kvs, ⟨h1, h2, h3⟩ => ⟨h2, AllS.vals h3⟩
  | [], _ :: _, h => h.elim
  | _ :: _, [], h => h.elim
theorem AllS.at {F : Hp} : ∀ {l : List (Str × As)} {kvs : List (Key × V)} {i : Nat} {x : Str × As}, AllS F l kvs → l[i]? = some x → ∃ v, kvs[i]? = some (.inr x.1, v) ∧ x.2.p F v
  | [], [], i, x, _, e => by simp at e
  | (a, R) :: l, (q, v) :: kvs, 0, x, ⟨h1, h2, h3⟩, e => by
    have e' : (a, R) = x := Option.some.inj e
    subst e'
    subst h1
    exact ⟨v, rfl, h2⟩
  | (a, R) :: l, (q, v) :: kvs, i + 1, x, ⟨h1, h2, h3⟩, e => AllS.at (i := i) h3 (by simpa using e)
  | [], _ :: _, _, _, h, _ => h.elim
  | _ :: _, [], _, _, h, _ => h.elim
theorem all_strs {F : Hp} : ∀ {l : List Str}, All F (l.map fun x => S x) (l.map V.str)
  | [] => trivial
  | _ :: _ => ⟨rfl, all_strs⟩
/-! what is owned: a dict, a dict that is locked -/
def oS (l : List (Str × As)) : OA := ⟨fun F o => ∃ kvs, o = .dK kvs ∧ AllS F l kvs, fun s h => by
  obtain ⟨kvs, e, q⟩ := h; exact ⟨kvs, e, q.mono s⟩⟩
def oSk (od : Obj) (kvs : List (Key × V)) (l : List (Str × As)) : OA := ⟨fun F o => o = .frz od (.dK kvs) ∧ AllS F l kvs, fun s h => ⟨h.1, h.2.mono s⟩⟩
structure RdS (A : OA) (l : List (Str × As)) : Prop where
  rd : ∀ F o, A.p F o → ∃ kvs, (o = .dK kvs ∨ ∃ od, o = .frz od (.dK kvs)) ∧ AllS F l kvs
theorem rdS {l : List (Str × As)} : RdS (oS l) l := ⟨fun F o ⟨kvs, e, h⟩ => ⟨kvs, .inl e, h⟩⟩
theorem rdSk {l : List (Str × As)} {od : Obj} {kvs : List (Key × V)} : RdS (oSk od kvs l) l := ⟨fun F o ⟨e, h⟩ => ⟨kvs, .inr ⟨od, e⟩, h⟩⟩
section
variable {Z : Bs} {F H F' H' : Hp} {σ σ' : L2.St} {Γ Γ' : Gm} {Ω Ω' Ωr : Om} {K : PySem.W.Frag} {te ta tb tl tk tx : TE} {tt : TT} {R Rx Ry : As} {Rs Ss : List As} {n : L2.St → Hp → Prop} {r : VK} {bk ct : L2.St → Hp → Prop} {p d C dx : Addr} {l : List (Str × As)} {f m : Str} {j : Nat} {E : XK} {A A2 : OA} {k : Str}
def DkS (Γ : Gm) (Ω : Om) (te : TE) (l : List (Str × As)) : Prop := ∀ (Z : Bs) (F H : Hp) (σ : L2.St), Ctx Z F H σ Γ Ω → ∀ Q : VK, (∀ a F' H', Ctx Z F' H' σ Γ Ω → Ext [] F H F' H' → (∀ F2 H2, Ctx Z F2 H2 σ Γ Ω → Same F' F2 → ∃ kvs, Rd H2 a (.dK kvs) ∧ AllS F2 l kvs) → Q (.ref a) H') → te σ H Q
theorem dkoS (h : Ev Γ Ω te (Rf p)) (hm : Ω[j]? = some (p, A)) (hA : RdS A l) : DkS Γ Ω te l := fun Z F H σ c Q q => h Z F H σ c Q fun v F1 H1 c1 s1 rv => by
  cases rv
  refine q p F1 H1 c1 s1 fun F2 H2 c2 s2 => ?_
  obtain ⟨_, o, h2, ho⟩ := c2.own _ (List.mem_of_getElem? hm)
  obtain ⟨kvs, eo, hx⟩ := hA.rd _ _ ho
  refine ⟨kvs, ?_, hx⟩
  rcases eo with eo | ⟨od, eo⟩
  · exact .inl (by rw [h2, eo])
  · exact .inr ⟨od, by rw [h2, eo]⟩
theorem eo_snew : EvNw Γ Ω tDNewK (oS []) := fun Z F H σ c Q q p hp => q p F _ (c.grow (A := oS []) hp ⟨[], rfl, trivial⟩) (Ext.newH hp) hp
theorem dget_rd {H : Hp} {a : Addr} {kvs : List (Key × V)} {k : Key} (e : Rd H a (.dK kvs)) : DGet H a (kV k) (valV kvs k) := .inl ⟨kvs, k, e, rfl, rfl⟩
theorem ev_sget (ha : DkS Γ Ω ta l) (hb : Ev Γ Ω tb (S k)) (h : getS k l = some R) : Ev Γ Ω (tDGet ta tb) R := fun Z F H σ c Q q =>
  ha Z F H σ c _ fun a F1 H1 c1 s1 hd => hb Z F1 H1 σ c1 _ fun y F2 H2 c2 s2 ry => by
    cases ry
    obtain ⟨kvs, h1, h2⟩ := hd F2 H2 c2 s2.fe
    obtain ⟨v, h3, h4⟩ := (h2.get (k := k)).1 R h
    exact ⟨a, v, rfl, h3 ▸ dget_rd (k := .inr k) h1, q v F2 H2 c2 (s1.trans s2) h4⟩
theorem ev_sin (hb : Ev Γ Ω tb (S k)) (ha : DkS Γ Ω ta l) : Ev Γ Ω (tDIn tb ta) (B (hasS k l)) := fun Z F H σ c Q q =>
  hb Z F H σ c _ fun y F1 H1 c1 s1 ry => ha Z F1 H1 σ c1 _ fun a F2 H2 c2 s2 hd => by
    cases ry
    obtain ⟨kvs, h1, h2⟩ := hd F2 H2 c2 (Same.refl _)
    refine ⟨a, valV kvs (.inr k), rfl, dget_rd (k := .inr k) h1, q _ F2 H2 c2 (s1.trans s2) ?_⟩
    rw [← valV_any, h2.has]; rfl
theorem ev_snotin (hb : Ev Γ Ω tb (S k)) (ha : DkS Γ Ω ta l) : Ev Γ Ω (tDNotIn tb ta) (B (!hasS k l)) := fun Z F H σ c Q q =>
  hb Z F H σ c _ fun y F1 H1 c1 s1 ry => ha Z F1 H1 σ c1 _ fun a F2 H2 c2 s2 hd => by
    cases ry
    obtain ⟨kvs, h1, h2⟩ := hd F2 H2 c2 (Same.refl _)
    refine ⟨a, valV kvs (.inr k), rfl, dget_rd (k := .inr k) h1, q _ F2 H2 c2 (s1.trans s2) ?_⟩
    rw [← valV_any, h2.has]; rfl
theorem ev_sget2 {S0 : As} (ha : DkS Γ Ω ta l) (hb : Ev Γ Ω tb (S k)) (hx : Ev Γ Ω tx Rx) (h1 : ∀ R, getS k l = some R → ∀ F v, R.p F v → S0.p F v) (h2 : getS k l = none → ∀ F v, Rx.p F v → S0.p F v) : Ev Γ Ω (tDGet2 ta tb tx) S0 := fun Z F H σ c Q q =>
  ha Z F H σ c _ fun a F1 H1 c1 s1 hd => by
    obtain ⟨kvs, g1, g2⟩ := hd F1 H1 c1 (Same.refl _)
    refine ⟨a, rfl, .inl ⟨kvs, g1⟩, hb Z F1 H1 σ c1 _ fun y F2 H2 c2 s2 ry => hx Z F2 H2 σ c2 _ fun x F3 H3 c3 s3 rx => ?_⟩
    cases ry
    obtain ⟨kvs, g1, g2⟩ := hd F3 H3 c3 (s2.trans s3).fe
    refine ⟨valV kvs (.inr k), dget_rd (k := .inr k) g1, q _ F3 H3 c3 (s1.trans (s2.trans s3)) ?_⟩
    cases e : getS k l with
    | none => rw [(g2.get (k := k)).2 e]; exact h2 e _ _ rx
    | some R =>
      obtain ⟨v, e3, e4⟩ := (g2.get (k := k)).1 R e
      rw [e3]; exact h1 R e _ _ e4
theorem st_sput (c : Ctx Z F H σ Γ Ω) (e : Ev Γ Ω te R) (ha : Ev Γ Ω ta (Rf p)) (hm : Ω[j]? = some (p, oS l)) (hb : Ev Γ Ω tb (S k)) (hl : l.length ≤ 10000000) (kk : ∀ F' H', Ctx Z F' H' σ Γ (Ω.set j (p, oS (putS l k R))) → Same F F' → n σ H') (hw : Wr Z p) : sDPut ta tb te ⟨n, r, bk, ct⟩ σ H :=
  e Z F H σ c _ fun v F1 H1 c1 s1 rv => ha Z F1 H1 σ c1 _ fun x F2 H2 c2 s2 rx => hb Z F2 H2 σ c2 _ fun y F3 H3 c3 s3 ry => by
    cases rx
    cases ry
    obtain ⟨_, o, h2, kvs, eo, hx⟩ := c3.own _ (List.mem_of_getElem? hm)
    subst eo
    exact ⟨p, _, rfl, DPut.k (k := .inr k) h2 (by rw [hx.length]; exact Nat.lt_of_le_of_lt hl (by decide)), kk F3 _ (c3.chg hm ⟨_, rfl, hx.put (R.mono (s2.trans s3).fe rv)⟩ hw) (s1.trans (s2.trans s3)).fe⟩
/-- d[k] = e, where e changes what is owned -/
theorem em_sput (c : Ctx Z F H σ Γ Ω) (e : EvM Z Γ Ω te R Ω') (ha : Ev Γ Ω' ta (Rf p)) (hm : Ω'[j]? = some (p, oS l)) (hb : Ev Γ Ω' tb (S k)) (hl : l.length ≤ 10000000) (kk : ∀ F' H', Ctx Z F' H' σ Γ (Ω'.set j (p, oS (putS l k R))) → Same F F' → n σ H') (hw : Wr Z p) : sDPut ta tb te ⟨n, r, bk, ct⟩ σ H :=
  e F H σ c _ fun v F1 H1 c1 s1 rv => ha Z F1 H1 σ c1 _ fun x F2 H2 c2 s2 rx => hb Z F2 H2 σ c2 _ fun y F3 H3 c3 s3 ry => by
    cases rx
    cases ry
    obtain ⟨_, o, h2, kvs, eo, hx⟩ := c3.own _ (List.mem_of_getElem? hm)
    subst eo
    exact ⟨p, _, rfl, DPut.k (k := .inr k) h2 (by rw [hx.length]; exact Nat.lt_of_le_of_lt hl (by decide)), kk F3 _ (c3.chg hm ⟨_, rfl, hx.put (R.mono (s2.trans s3).fe rv)⟩ hw) (s1.trans (s2.trans s3).fe)⟩
/-- d[k] op= e -/
theorem st_saug {rd : V → V → Hp → VK → Prop} {Rv : As} (c : Ctx Z F H σ Γ Ω) (ha : Ev Γ Ω ta (Rf p)) (hm : Ω[j]? = some (p, oS l)) (hb : Ev Γ Ω tb (S k)) (hg : getS k l = some Rx) (e : Ev Γ Ω te Ry) (hr : RV rd Rx Ry Rv) (hl : l.length ≤ 10000000) (kk : ∀ F' H', Ctx Z F' H' σ Γ (Ω.set j (p, oS (putS l k Rv))) → Same F F' → n σ H') (hw : Wr Z p) : sDAug ta tb te rd ⟨n, r, bk, ct⟩ σ H :=
  ha Z F H σ c _ fun x F1 H1 c1 s1 rx => hb Z F1 H1 σ c1 _ fun y F2 H2 c2 s2 ry => by
    cases rx
    cases ry
    obtain ⟨_, o, h2, kvs, eo, hx⟩ := c2.own _ (List.mem_of_getElem? hm)
    subst eo
    obtain ⟨v, h3, h4⟩ := (hx.get (k := k)).1 Rx hg
    refine ⟨p, v, rfl, h3 ▸ DGet.k (k := .inr k) h2, e Z F2 H2 σ c2 _ fun y2 F3 H3 c3 s3 ry2 => hr F3 H3 v y2 c3.sub (Rx.mono s3.fe h4) ry2 _ fun z F4 H4 e4 s4 rz => ?_⟩
    have c4 := c3.step e4 s4
    obtain ⟨_, o, h2, kvs, eo, hx⟩ := c4.own _ (List.mem_of_getElem? hm)
    subst eo
    exact ⟨_, DPut.k (k := .inr k) h2 (by rw [hx.length]; exact Nat.lt_of_le_of_lt hl (by decide)), kk F4 _ (c4.chg hm ⟨_, rfl, hx.put rz⟩ hw) (((s1.trans s2).trans s3).fe.trans e4.fe)⟩
/-- d.pop(k), k there -/
theorem em_spop (ha : Ev Γ Ω ta (Rf p)) (hm : Ω[j]? = some (p, oS l)) (hb : Ev Γ Ω tb (S k)) (hg : getS k l = some R) (hw : Wr Z p) : EvM Z Γ Ω (tDPop1 ta tb) R (Ω.set j (p, oS (delS l k))) := fun F H σ c Q q =>
  ha Z F H σ c _ fun x F1 H1 c1 s1 rx => by
    cases rx
    obtain ⟨_, o, h2, kvs, eo, hx⟩ := c1.own _ (List.mem_of_getElem? hm)
    subst eo
    refine ⟨p, rfl, .inl ⟨kvs, .inl h2⟩, hb Z F1 H1 σ c1 _ fun y F2 H2 c2 s2 ry => ?_⟩
    cases ry
    obtain ⟨_, o, h2, kvs, eo, hx⟩ := c2.own _ (List.mem_of_getElem? hm)
    subst eo
    obtain ⟨v, h3, h4⟩ := (hx.get (k := k)).1 R hg
    exact ⟨kvs, .inr k, v, h2, rfl, h3, q v F2 _ (c2.chg hm ⟨_, rfl, hx.del⟩ hw) (s1.trans s2).fe h4⟩
/-- len(d) -/
def rLenD : List V → Hp → VK → Prop := fun xs H Q => ∃ a kvs, xs = [V.ref a] ∧ Rd H a (.dK kvs) ∧ Q (.int kvs.length) H
theorem cr_lenD {X : Cx} : CallR X (.builtin "len") rLenD := by
  intro pins s σ H xs us Q I r q
  obtain ⟨a, kvs, ex, hd, q⟩ := q
  subst ex
  rw [Vals.ref1 r]
  exact d_len I hd fun t s' I' => ⟨.int kvs.length, H, I', ⟨t, rfl⟩, q⟩
theorem ev_slen (ha : DkS Γ Ω ta l) : Ev Γ Ω (tCB rLenD (tCons ta tNil)) (I (l.length : Int)) := fun Z F H σ c Q q =>
  ha Z F H σ c _ fun a F1 H1 c1 s1 hd => by
    obtain ⟨kvs, h1, h2⟩ := hd F1 H1 c1 (Same.refl _)
    exact ⟨a, kvs, rfl, h1, q _ F1 H1 c1 s1 (by rw [h2.length]; rfl)⟩
/-- list(d) -/
theorem eo_slist (ha : DkS Γ Ω ta l) : EvNw Γ Ω (tCB (fun xs H Q => ∃ (a : Addr) (kvs : List (Key × V)), xs = [.ref a] ∧ Rd H a (.dK kvs) ∧ ∀ p, H p = none → Q (.ref p) (upd H p (.lst (kvs.map fun kv => kV kv.1)))) (tCons ta tNil)) (oL ((l.map (·.1)).map fun x => S x)) := fun Z F H σ c Q q =>
  ha Z F H σ c _ fun a F1 H1 c1 s1 hd => by
    obtain ⟨kvs, h1, h2⟩ := hd F1 H1 c1 (Same.refl _)
    refine ⟨a, kvs, rfl, h1, fun p hp => q p F1 _ (c1.grow (A := oL ((l.map (·.1)).map fun x => S x)) hp ⟨_, rfl, ?_⟩) (s1.trans (Ext.newH hp)) (s1.dm _ hp)⟩
    rw [h2.keys]
    have := all_strs (F := F1) (l := l.map (·.1))
    have e : (l.map (·.1)).map V.str = l.map fun p => V.str p.1 := by rw [List.map_map]; rfl
    rw [e] at this
    exact this
/-! locks -/
def swapH (H0 : Hp) (d : Addr) (w : HO) : Hp := fun a => if a = d then (H0 d).map (fun _ => w) else H0 a
theorem swapH_none {H0 : Hp} {w : HO} {a : Addr} : swapH H0 d w a = none ↔ H0 a = none := by
  unfold swapH
  by_cases h : a = d
  · rw [if_pos h, h, Option.map_eq_none_iff]
  · rw [if_neg h]
theorem swapH_ne {H0 : Hp} {w : HO} {a : Addr} (h : a ≠ d) : swapH H0 d w a = H0 a := if_neg h
theorem swapH_self {H0 : Hp} {w o : HO} (h : swapH H0 d w d = some o) : o = w := by
  unfold swapH at h
  rw [if_pos rfl] at h
  obtain ⟨x, _, e⟩ := Option.map_eq_some_iff.mp h
  exact e.symm
def swapZ (Z : Bs) (d : Addr) (w : HO) : Bs := ⟨Z.F, swapH Z.H d w, Z.ft, Z.G, Z.ro⟩
theorem swap_wr {w : HO} {x : Addr} (h : Wr Z x) : Wr (swapZ Z d w) x := h.elim .inl fun e => .inr (swapH_none.mpr e)
theorem swap_wr' {w : HO} {x : Addr} (h : Wr (swapZ Z d w) x) : Wr Z x := h.elim .inl fun e => .inr (swapH_none.mp e)
theorem own_at (c : Ctx Z F H σ Γ Ω) (hm : Ω[j]? = some (d, A)) (i : Nat) (x : Addr × OA) (hi : i ≠ j) (hx : Ω[i]? = some x) : x.1 ≠ d := fun z => by
  have a1 : (Ω.map (·.1))[i]? = some d := by rw [List.getElem?_map, hx, ← z]; rfl
  have a2 : (Ω.map (·.1))[j]? = some d := by rw [List.getElem?_map, hm]; rfl
  exact hi (nd_ix c.nd a1 a2)
theorem own_look (c : Ctx Z F H σ Γ Ω) (hm : Ω[j]? = some (d, A)) : ∀ x ∈ Ω.set j (d, A2), x = (d, A2) ∨ (x ∈ Ω ∧ x.1 ≠ d) := fun x hx => by
  have hj : j < Ω.length := (List.getElem?_eq_some_iff.mp hm).1
  obtain ⟨i, hi⟩ := List.getElem?_of_mem hx
  by_cases z : j = i
  · subst z
    rw [List.getElem?_set_self hj] at hi
    exact .inl (Option.some.inj hi).symm
  · rw [List.getElem?_set_ne z] at hi
    exact .inr ⟨List.mem_of_getElem? hi, own_at c hm i x (Ne.symm z) hi⟩
theorem own_nd (c : Ctx Z F H σ Γ Ω) (hm : Ω[j]? = some (d, A)) : ((Ω.set j (d, A2)).map (·.1)).Nodup := by
  have hj : j < Ω.length := (List.getElem?_eq_some_iff.mp hm).1
  rw [List.map_set]
  have e : (Ω.map (·.1)).set j d = Ω.map (·.1) := by
    have a2 : (Ω.map (·.1))[j]? = some d := by rw [List.getElem?_map, hm]; rfl
    apply List.ext_getElem?
    intro i
    by_cases z : j = i
    · subst z
      rw [List.getElem?_set_self (by rw [List.length_map]; exact hj), a2]
    · rw [List.getElem?_set_ne z]
  rw [e]; exact c.nd
/-- what is said of d at the start -/
def LkOk (Z : Bs) (d : Addr) (u : HO) : Prop := ∀ o, Z.H d = some o → d ∉ Z.ft → o = u
theorem Ctx.lkOk {u : HO} (c : Ctx Z F H σ Γ Ω) (hu : H d = some u) : LkOk Z d u := fun o h n => by
  have := c.ext.fr d o h n
  rw [hu] at this
  exact (Option.some.inj this).symm
theorem Ctx.swap {w : HO} (c : Ctx Z F H σ Γ Ω) (hm : Ω[j]? = some (d, A)) (hB : A2.p F w) : Ctx (swapZ Z d w) F (upd H d w) σ Γ (Ω.set j (d, A2)) := by
  have hmem := List.mem_of_getElem? hm
  obtain ⟨hf, o0, h0, _⟩ := c.own _ hmem
  dsimp only at hf h0
  refine ⟨c.sat, fun a u q => ?_, fun x hx => ?_, own_nd c hm, fun x hx => ?_, ⟨c.ext.fe, fun a u q na => ?_, fun a q => ?_, fun a h1 h2 => ?_⟩, c.pin⟩
  · rw [upd_ne (ne_of_none q hf)]; exact c.sub a u q
  · rcases own_look c hm x hx with z | ⟨hx, z⟩
    · subst z; exact ⟨hf, w, upd_same, hB⟩
    · obtain ⟨h1, o', h2, h3⟩ := c.own x hx
      exact ⟨h1, o', by rw [upd_ne z]; exact h2, h3⟩
  · have : x.1 ∈ Z.ft ∨ Z.H x.1 = none ∨ x.1 ∈ Z.ro := by
      rcases own_look c hm x hx with z | ⟨hx, z⟩
      · have z2 : x.1 = d := by rw [z]
        rw [z2]; exact c.loc _ hmem
      · exact c.loc x hx
    rcases this with l | l | l
    · exact .inl l
    · exact .inr (.inl (swapH_none.mpr l))
    · exact .inr (.inr l)
  · by_cases z : a = d
    · subst z
      rw [swapH_self q, upd_same]
    · rw [upd_ne z]
      exact c.ext.fr a u (by have q : swapH Z.H d w a = some u := q; rw [swapH_ne z] at q; exact q) na
  · have z : a ≠ d := fun z => by subst z; rw [upd_same] at q; cases q
    rw [upd_ne z] at q
    exact swapH_none.mpr (c.ext.dm a q)
  · exact c.ext.nw a (fun z => h1 (swapH_none.mpr z)) h2
theorem Ctx.back {u w : HO} (hk : LkOk Z d u) (c : Ctx (swapZ Z d w) F H σ Γ Ω) (hm : Ω[j]? = some (d, A2)) (hA : A.p F u) : Ctx Z F (upd H d u) σ Γ (Ω.set j (d, A)) := by
  have hmem := List.mem_of_getElem? hm
  obtain ⟨hf, o0, h0, _⟩ := c.own _ hmem
  dsimp only at hf h0
  refine ⟨c.sat, fun a v q => ?_, fun x hx => ?_, own_nd c hm, fun x hx => ?_, ⟨c.ext.fe, fun a v q na => ?_, fun a q => ?_, fun a h1 h2 => ?_⟩, c.pin⟩
  · rw [upd_ne (ne_of_none q hf)]; exact c.sub a v q
  · rcases own_look c hm x hx with z | ⟨hx, z⟩
    · subst z; exact ⟨hf, u, upd_same, hA⟩
    · obtain ⟨h1, o', h2, h3⟩ := c.own x hx
      exact ⟨h1, o', by rw [upd_ne z]; exact h2, h3⟩
  · have : x.1 ∈ Z.ft ∨ swapH Z.H d w x.1 = none ∨ x.1 ∈ Z.ro := by
      rcases own_look c hm x hx with z | ⟨hx, z⟩
      · have z2 : x.1 = d := by rw [z]
        rw [z2]; exact c.loc _ hmem
      · exact c.loc x hx
    rcases this with l | l | l
    · exact .inl l
    · exact .inr (.inl (swapH_none.mp l))
    · exact .inr (.inr l)
  · by_cases z : a = d
    · subst z
      rw [hk v q na, upd_same]
    · rw [upd_ne z]
      exact c.ext.fr a v (by show swapH Z.H d w a = some v; rw [swapH_ne z]; exact q) na
  · have z : a ≠ d := fun z => by subst z; rw [upd_same] at q; cases q
    rw [upd_ne z] at q
    exact swapH_none.mp (c.ext.dm a q)
  · exact c.ext.nw a (fun z => h1 (swapH_none.mp z)) h2
/-- the end of a lock -/
theorem Ctx.unlock {od : Obj} {kvs : List (Key × V)} (c : Ctx (swapZ Z d (.frz od (.dK kvs))) F H σ Γ Ω) (hk : LkOk Z d (.dK kvs)) (hm : Ω[j]? = some (d, oSk od kvs l)) : H d = some (.frz od (.dK kvs)) ∧ Ctx Z F (upd H d (.dK kvs)) σ Γ (Ω.set j (d, oS l)) := by
  obtain ⟨hf, o0, h0, e0, hx⟩ := c.own _ (List.mem_of_getElem? hm)
  dsimp only at h0
  refine ⟨by rw [h0, e0], c.back hk hm ⟨kvs, rfl, hx⟩⟩
/-- a statement under a lock -/
theorem st_lock {t : TS} (c : Ctx Z F H σ Γ Ω) (hm : Ω[j]? = some (d, oS l)) (kk : ∀ od kvs, LkOk Z d (.dK kvs) → Ctx (swapZ Z d (.frz od (.dK kvs))) F (upd H d (.frz od (.dK kvs))) σ Γ (Ω.set j (d, oSk od kvs l)) →
    t ⟨fun σ' H' => H' d = some (.frz od (.dK kvs)) ∧ n σ' (upd H' d (.dK kvs)), fun v H' => H' d = some (.frz od (.dK kvs)) ∧ r v (upd H' d (.dK kvs)), fun σ' H' => H' d = some (.frz od (.dK kvs)) ∧ bk σ' (upd H' d (.dK kvs)), fun σ' H' => H' d = some (.frz od (.dK kvs)) ∧ ct σ' (upd H' d (.dK kvs))⟩ σ (upd H d (.frz od (.dK kvs)))) : tLock t ⟨n, r, bk, ct⟩ σ H := by
  obtain ⟨hf, o0, h0, kvs, e0, hx⟩ := c.own _ (List.mem_of_getElem? hm)
  dsimp only at h0
  subst e0
  exact ⟨d, .dK kvs, h0, trivial, fun od => kk od kvs (c.lkOk h0) (c.swap hm ⟨rfl, hx⟩)⟩
/-- an expression under a lock -/
theorem ev_lock (hm : Ω[j]? = some (d, oS l)) (h : ∀ od kvs, Ev Γ (Ω.set j (d, oSk od kvs l)) te R) : Ev Γ Ω (tLockE te) R := fun Z F H σ c Q q => by
  obtain ⟨hf, o0, h0, kvs, e0, hx⟩ := c.own _ (List.mem_of_getElem? hm)
  have hj : j < Ω.length := (List.getElem?_eq_some_iff.mp hm).1
  dsimp only at h0 hf
  subst e0
  have hs : ∀ A2 : OA, (Ω.set j (d, A2)).set j (d, oS l) = Ω := fun A2 => by
    rw [List.set_set]
    refine List.ext_getElem? fun i => ?_
    by_cases z : j = i
    · subst z; rw [List.getElem?_set_self hj, hm]
    · rw [List.getElem?_set_ne z]
  refine ⟨d, .dK kvs, h0, trivial, fun od => ?_⟩
  have c1 := c.swap (w := .frz od (.dK kvs)) (A2 := oSk od kvs l) hm ⟨rfl, hx⟩
  refine h od kvs _ F _ σ c1 _ fun v F1 H1 c2 s1 rv => ?_
  have hm2 : (Ω.set j (d, oSk od kvs l))[j]? = some (d, oSk od kvs l) := List.getElem?_set_self hj
  obtain ⟨e1, c3⟩ := c2.unlock (c.lkOk h0) hm2
  rw [hs] at c3
  refine ⟨e1, q v F1 _ c3 ⟨s1.fe, fun a u e _ => ?_, fun a e => ?_, fun a g1 g2 => ?_⟩ rv⟩
  · by_cases z : a = d
    · subst z; rw [upd_same, ← h0, e]
    · rw [upd_ne z]; exact s1.fr a u (by rw [upd_ne z]; exact e) List.not_mem_nil
  · have z : a ≠ d := fun z => by subst z; rw [upd_same] at e; cases e
    rw [upd_ne z] at e
    have := s1.dm a e
    rw [upd_ne z] at this; exact this
  · by_cases z : a = d
    · subst z; exact s1.nw a (by rw [upd_same]; intro y; cases y) g2
    · exact s1.nw a (by rw [upd_ne z]; exact g1) g2
/-! sources over what is owned -/
def SrcK {α : Type} (Kp : Om → Prop) (Γ : Gm) (Ω : Om) (wi : TI) (xs : List α) (f : α → As) : Prop := ∀ (Z : Bs) (F H : Hp) (σ : L2.St), Ctx Z F H σ Γ Ω → ∀ R : It → Hp → Prop,
  (∀ J F1 H1, Ctx Z F1 H1 σ Γ Ω → Ext [] F H F1 H1 → (∀ (Z' : Bs) (F2 H2 : Hp) (σ2 : L2.St) (Γ2 : Gm) (Ω2 : Om), Ctx Z' F2 H2 σ2 Γ2 Ω2 → Same F1 F2 → Kp Ω2 →
    J.stop xs.length H2 ∧ ∀ i x, xs[i]? = some x → J.go i H2 ∧ ∀ v H3, J.yld i H2 v H3 → ∃ F3, Ext [] F2 H2 F3 H3 ∧ Same F3 H3 ∧ (f x).p F3 v) → R J H1) → wi σ H R
theorem src_skeys {od : Obj} {kvs : List (Key × V)} (e : Ev Γ Ω te (Rf d)) (hm : Ω[j]? = some (d, oSk od kvs l)) : SrcK (fun Ω' => (d, oSk od kvs l) ∈ Ω') Γ Ω (iKeys te) (l.map (·.1)) (fun x => S x) := fun Z F H σ c R q => e Z F H σ c _ fun v F1 H1 c1 s1 rv => by
  cases rv
  obtain ⟨hf, o0, h0, e0, hx⟩ := c1.own _ (List.mem_of_getElem? hm)
  dsimp only at h0
  refine ⟨d, od, rfl, .inl ⟨kvs, by rw [h0, e0], q _ F1 H1 c1 s1 fun Z' F2 H2 σ2 Γ2 Ω2 c2 s2 hk => ?_⟩⟩
  obtain ⟨_, o1, h1, e1, hx2⟩ := c2.own _ hk
  dsimp only at h1
  have hh : H2 d = some (.frz od (.dK kvs)) := by rw [h1, e1]
  refine ⟨⟨hh, by rw [List.length_map]; exact Nat.le_of_eq hx2.length⟩, fun i x hi => ?_⟩
  rw [List.getElem?_map] at hi
  obtain ⟨y, hy, ey⟩ := Option.map_eq_some_iff.mp hi
  subst ey
  obtain ⟨w, hw1, hw2⟩ := hx2.at hy
  refine ⟨⟨hh, (List.getElem?_eq_some_iff.mp hw1).1⟩, fun v H3 hv => ?_⟩
  obtain ⟨z1, k', v', z2, z3⟩ := hv
  subst z1
  rw [hw1] at z2
  cases z2
  exact ⟨F2, Ext.refl _ _ _, c2.sub, z3⟩
theorem src_svals {od : Obj} {kvs : List (Key × V)} (e : Ev Γ Ω te (Rf d)) (hm : Ω[j]? = some (d, oSk od kvs l)) : SrcK (fun Ω' => (d, oSk od kvs l) ∈ Ω') Γ Ω (iVals te) l (fun x => x.2) := fun Z F H σ c R q => e Z F H σ c _ fun v F1 H1 c1 s1 rv => by
  cases rv
  obtain ⟨hf, o0, h0, e0, hx⟩ := c1.own _ (List.mem_of_getElem? hm)
  dsimp only at h0
  refine ⟨d, od, kvs, rfl, by rw [h0, e0], q _ F1 H1 c1 s1 fun Z' F2 H2 σ2 Γ2 Ω2 c2 s2 hk => ?_⟩
  obtain ⟨_, o1, h1, e1, hx2⟩ := c2.own _ hk
  dsimp only at h1
  have hh : H2 d = some (.frz od (.dK kvs)) := by rw [h1, e1]
  refine ⟨⟨hh, Nat.le_of_eq hx2.length⟩, fun i y hy => ?_⟩
  obtain ⟨w, hw1, hw2⟩ := hx2.at hy
  refine ⟨⟨hh, (List.getElem?_eq_some_iff.mp hw1).1⟩, fun v H3 hv => ?_⟩
  obtain ⟨z1, k', z2⟩ := hv
  subst z1
  rw [hw1] at z2
  cases z2
  exact ⟨F2, Ext.refl _ _ _, c2.sub, hw2⟩
theorem src_sitems {od : Obj} {kvs : List (Key × V)} (e : Ev Γ Ω te (Rf d)) (hm : Ω[j]? = some (d, oSk od kvs l)) : SrcK (fun Ω' => (d, oSk od kvs l) ∈ Ω') Γ Ω (iItems te) l (fun x => Tp K [S x.1, x.2]) := fun Z F H σ c R q => e Z F H σ c _ fun v F1 H1 c1 s1 rv => by
  cases rv
  obtain ⟨hf, o0, h0, e0, hx⟩ := c1.own _ (List.mem_of_getElem? hm)
  dsimp only at h0
  refine ⟨d, od, kvs, rfl, by rw [h0, e0], q _ F1 H1 c1 s1 fun Z' F2 H2 σ2 Γ2 Ω2 c2 s2 hk => ?_⟩
  obtain ⟨_, o1, h1, e1, hx2⟩ := c2.own _ hk
  dsimp only at h1
  have hh : H2 d = some (.frz od (.dK kvs)) := by rw [h1, e1]
  refine ⟨⟨hh, Nat.le_of_eq hx2.length⟩, fun i y hy => ?_⟩
  obtain ⟨w, hw1, hw2⟩ := hx2.at hy
  refine ⟨⟨hh, (List.getElem?_eq_some_iff.mp hw1).1⟩, fun v H3 hv => ?_⟩
  obtain ⟨T, k', v', z2, z3, z4, z5⟩ := hv
  rw [hw1] at z2
  cases z2
  subst z3 z5
  obtain ⟨e3, s3⟩ := Ext.new (o := .tup [kV (.inr y.1), w]) c2.sub z4
  exact ⟨_, e3, s3, T, _, rfl, SqT.of upd_same, rfl, y.2.mono e3.fe hw2, trivial⟩
/-- an owned list that stands while it is walked -/
theorem src_ol {α : Type} {xs : List α} {f : α → As} {ys : List V} (e : Ev Γ Ω te (Rf d)) (hm : Ω[j]? = some (d, oX ys (xs.map f))) : SrcK (fun Ω' => (d, oX ys (xs.map f)) ∈ Ω') Γ Ω (iList K te) xs f := fun Z F H σ c R q => e Z F H σ c _ fun v F1 H1 c1 s1 rv => by
  cases rv
  obtain ⟨hf, o0, h0, e0, hx⟩ := c1.own _ (List.mem_of_getElem? hm)
  dsimp only at h0
  refine ⟨d, rfl, ⟨ys, SqL.of (by rw [h0, e0])⟩, q _ F1 H1 c1 s1 fun Z' F2 H2 σ2 Γ2 Ω2 c2 s2 hk => ?_⟩
  obtain ⟨_, o1, h1, e1, hx2⟩ := c2.own _ hk
  dsimp only at h1
  have hh : SqL K H2 d ys := SqL.of (by rw [h1, e1])
  have hly : ys.length = xs.length := by rw [hx2.length, List.length_map]
  refine ⟨⟨ys, hh, Nat.le_of_eq hly⟩, fun i x hi => ?_⟩
  have hz : (xs.map f)[i]? = some (f x) := by rw [List.getElem?_map, hi]; rfl
  obtain ⟨y, ey, ry⟩ := hx2.get hz
  refine ⟨⟨ys, y, hh, ey⟩, fun v H3 hy => ?_⟩
  obtain ⟨e1, e2⟩ := hy
  subst e1
  have := e2 ys hh
  rw [ey] at this
  cases this
  exact ⟨F2, Ext.refl _ _ _, c2.sub, ry⟩
theorem st_forK {ι α : Type} {wi : TI} {g : TG} {tb : TS} {xs : List α} {f : α → As} (G : ι → Gm) (G' : α → ι → Gm) (O : ι → Om) (P : Nat → ι → Prop) {ws : List Nat} (i0 : ι) (c : Ctx Z F H σ (G i0) (O i0)) {Kp : Om → Prop} (e : SrcK Kp (G i0) (O i0) wi xs f) (hkp : ∀ i, Kp (O i)) (p0 : P 0 i0)
    (hg : ∀ x i, Gt (G i) (f x) g (G' x i) ws)
    (body : ∀ k x i G1 F H σ (N : L2.St → Hp → Prop), xs[k]? = some x → P k i → Ctx (Z.pin G1) F H σ (G' x i) (O i) → (∀ j F' H' σ', P (k + 1) j → Ctx (Z.pin G1) F' H' σ' (G j) (O j) → N σ' H') → tb ⟨N, r, n, N⟩ σ H)
    (hd : ∀ i F H σ, P xs.length i → Ctx Z F H σ (G i) (O i) → n σ H) : tFor wi g tb ⟨n, r, bk, ct⟩ σ H := by
  refine e Z F H σ c _ fun J F1 H1 c1 s1 src => ?_
  refine ⟨fun k m σ H => m = xs.length - k ∧ k ≤ xs.length ∧ ∃ i F, P k i ∧ Ctx (Z.pin F1) F H σ (G i) (O i), ⟨_, rfl, Nat.zero_le _, i0, F1, p0, c1.topin (Same.refl _)⟩, ?_⟩
  rintro k m σ H ⟨rfl, hkn, i, F, p, cc⟩
  obtain ⟨stop, go⟩ := src _ F H σ _ _ cc cc.pin (hkp i)
  rcases Nat.lt_or_eq_of_le hkn with hk | hk
  · have hx : xs[k]? = some xs[k] := List.getElem?_eq_getElem hk
    obtain ⟨g1, yl⟩ := go k xs[k] hx
    refine .inr ⟨g1, fun σ' H' => ∃ i F, P (k + 1) i ∧ Ctx (Z.pin F1) F H' σ' (G i) (O i), fun σ' H' p' => ⟨xs.length - (k + 1), by omega, rfl, hk, p'⟩, fun v H3 hy => ?_⟩
    obtain ⟨F3, e3, s3, rv⟩ := yl v H3 hy
    refine hg xs[k] i (Z.pin F1) F3 H3 σ v (O i) (cc.step e3 s3) rv _ fun σ' c' _ => ?_
    exact body k xs[k] i F1 F3 H3 σ' _ hx p c' fun j F' H' σ'' pj cj => ⟨j, F', pj, cj⟩
  · subst hk
    exact .inl ⟨stop, hd i F H σ p (cc.unpin c1.pin)⟩
theorem ev_lcK {α : Type} {wi : TI} {xs : List α} {f : α → As} {g : TG} {vs : List Nat} (G' : α → Gm) (cd : α → Bool) (res : α → As) {ws : List Nat} {Kp : Om → Prop} (e : SrcK Kp Γ Ω wi xs f) (hkp : Kp Ω) (hg : ∀ x, Gt (wipeG Γ vs) (f x) g (G' x) ws) (hw : ∀ i ∈ ws, i ∈ vs)
    (ht : ∀ x ∈ xs, EvT (G' x) Ω tt (cd x)) (he : ∀ x ∈ xs, cd x = true → Ev (G' x) Ω te (res x)) (hlen : xs.length ≤ 100000) : Ev Γ Ω (tLc wi g tt te vs) (Ls K ((xs.filter cd).map res)) := fun Z F H σ c Q q =>
  e Z F H σ c _ fun J F1 H1 c1 s1 src => by
    intro D hD
    have cw : Ctx Z F1 H1 (L2.wipe σ vs) (wipeG Γ vs) Ω := c1.slots (c1.sat.wipe vs)
    let Pv : Nat → Hp → Prop := (fun k H' => ∃ F' acc, H' D = some (.lst acc) ∧ acc.length ≤ k ∧ All F' (((xs.take k).filter cd).map res) acc ∧ F' D = none ∧ ∃ G, Ctx Z F' G (L2.wipe σ vs) (wipeG Γ vs) Ω ∧ Ext [] F1 H1 F' G ∧ G D = none ∧ H' = upd G D (.lst acc))
    refine ⟨fun i m H => m = xs.length - i ∧ i ≤ xs.length ∧ Pv i H, ⟨_, rfl, Nat.zero_le _, F1, [], upd_same, Nat.zero_le _, trivial, c1.sub.free hD, H1, cw, Ext.refl _ _ _, hD, rfl⟩, ?_⟩
    rintro k m Hc ⟨rfl, hkn, pk⟩
    rcases Nat.lt_or_eq_of_le hkn with hk | hk
    · obtain ⟨F', acc, hA, hlA, hall, hFD, G, cG, eG, hGD, rfl⟩ := pk
      have hx : xs[k]? = some xs[k] := List.getElem?_eq_getElem hk
      have hmem : xs[k] ∈ xs := List.getElem_mem hk
      have cA0 : Ctx Z F' (upd G D (.lst acc)) (L2.wipe σ vs) (wipeG Γ vs) Ω := (cG.grow (A := ⟨fun _ _ => True, fun _ h => h⟩) (p := D) (o := .lst acc) hGD trivial).tail
      obtain ⟨go, yl⟩ := (src Z F' _ _ _ _ cA0 eG.fe hkp).2 k xs[k] hx
      refine .inr ⟨go, Pv (k + 1), fun H' p' => ⟨xs.length - (k + 1), by omega, rfl, hk, p'⟩, fun y H' hy => ?_⟩
      obtain ⟨F0, e0, s0, ry⟩ := yl y H' hy
      -- the list that is being made, as something owned
      have cA : Ctx Z F0 H' (L2.wipe σ vs) (wipeG Γ vs) Ω := cA0.step e0 s0
      have pres : ∀ {F2 H2 : Hp}, Ext [] F' (upd G D (.lst acc)) F2 H2 → H2 D = some (.lst acc) := fun e2 => e2.fr D _ upd_same List.not_mem_nil
      have back : ∀ {F2 H2 : Hp} {σ2 : L2.St} {Γ2 : Gm}, Ctx Z F2 H2 σ2 Γ2 Ω → Ext [] F' (upd G D (.lst acc)) F2 H2 → F2 D = none ∧ ∃ G2, Ctx Z F2 G2 (L2.wipe σ vs) (wipeG Γ vs) Ω ∧ Ext [] F1 H1 F2 G2 ∧ G2 D = none ∧ ∀ o, upd H2 D o = upd G2 D o := fun {F2 H2 σ2 Γ2} c2 e2 => by
        have f2 : F2 D = none := e2.nw D (by rw [upd_same]; exact fun z => by cases z) hFD
        let G2 : Hp := fun b => if b = D then none else H2 b
        have g2 : ∀ b, b ≠ D → G2 b = H2 b := fun b hb => if_neg hb
        have gD : G2 D = none := if_pos rfl
        have hext : Ext [] F' G F2 G2 := by
          refine ⟨e2.fe, fun b o h hn => ?_, fun b h => ?_, fun b h1 h2 => ?_⟩
          · have hb : b ≠ D := ne_of_none h hGD
            rw [g2 b hb]
            exact e2.fr b o (by rw [upd_ne hb]; exact h) hn
          · by_cases hb : b = D
            · rw [hb]; exact hGD
            · rw [g2 b hb] at h
              have := e2.dm b h
              rw [upd_ne hb] at this
              exact this
          · have hb : b ≠ D := fun z => h1 (by rw [z]; exact hGD)
            exact e2.nw b (by rw [upd_ne hb]; exact h1) h2
        have hsub : Same F2 G2 := fun b o h => by
          have hb : b ≠ D := ne_of_none h f2
          rw [g2 b hb]
          exact c2.sub b o h
        refine ⟨f2, G2, cG.step hext hsub, eG.trans hext, gD, fun o => ?_⟩
        funext b
        unfold upd
        by_cases hb : b = D
        · rw [if_pos hb, if_pos hb]
        · rw [if_neg hb, if_neg hb, g2 b hb]
      refine hg xs[k] Z F0 _ (L2.wipe σ vs) y Ω cA ry _ fun σ2 c2 hσ => ⟨(hσ vs hw).trans ?_, ?_⟩
      · exact wipe_wipe σ vs
      refine ht xs[k] hmem Z F0 _ σ2 c2 _ fun F3 H3 c3 e3' => ?_
      have e3 := e0.trans e3'
      cases hc : cd xs[k] with
      | false =>
        refine iteF ?_
        obtain ⟨f3, G3, cG3, eG3, gD3, up3⟩ := back c3 e3
        refine ⟨F3, acc, pres e3, by omega, ?_, f3, G3, cG3, eG3, gD3, ?_⟩
        · rw [filter_take hx, hc, if_neg Bool.false_ne_true, List.append_nil]
          exact hall.mono e3.fe
        · have := up3 (.lst acc)
          rw [← this]
          funext b
          unfold upd
          by_cases hb : b = D
          · rw [if_pos hb, hb]; exact pres e3
          · rw [if_neg hb]
      | true =>
        refine iteT ?_
        refine he xs[k] hmem hc Z F3 H3 σ2 c3 _ fun w F4 H4 c4 e4 rw' => ?_
        have e34 := e3.trans e4
        obtain ⟨f4, G4, cG4, eG4, gD4, up4⟩ := back c4 e34
        refine ⟨acc, pres e34, Nat.lt_of_le_of_lt (Nat.le_trans hlA (Nat.le_of_lt (Nat.lt_of_lt_of_le hk hlen))) (by decide), F4, acc ++ [w], upd_same, by rw [List.length_append]; exact Nat.succ_le_succ hlA, ?_, f4, G4, cG4, eG4, gD4, up4 _⟩
        rw [filter_take hx, hc, if_pos rfl, List.map_append]
        exact (hall.mono e34.fe).app ⟨rw', trivial⟩
    · subst hk
      obtain ⟨F', acc, hA, _, hall, hFD, G, cG, eG, hGD, rfl⟩ := pk
      have cA0 : Ctx Z F' (upd G D (.lst acc)) (L2.wipe σ vs) (wipeG Γ vs) Ω := (cG.grow (A := ⟨fun _ _ => True, fun _ h => h⟩) (p := D) (o := .lst acc) hGD trivial).tail
      refine .inl ⟨(src Z F' _ _ _ _ cA0 eG.fe hkp).1, ?_⟩
      rw [List.take_length] at hall
      obtain ⟨e', s'⟩ := Ext.new (o := .lst acc) cG.sub hGD
      exact q _ _ _ (c1.step (eG.trans e') s') (s1.trans (eG.trans e')) ⟨D, acc, rfl, SqL.of upd_same, hall.mono e'.fe⟩

theorem ev_lcKA {α : Type} {wi : TI} {xs : List α} {f : α → As} {g : TG} {vs : List Nat} (G' : α → Gm) (res : α → As) {ws : List Nat} {Kp : Om → Prop} (e : SrcK Kp Γ Ω wi xs f) (hkp : Kp Ω) (hg : ∀ x, Gt (wipeG Γ vs) (f x) g (G' x) ws) (hw : ∀ i ∈ ws, i ∈ vs)
    (he : ∀ x ∈ xs, Ev (G' x) Ω te (res x)) (hlen : xs.length ≤ 100000) : Ev Γ Ω (tLc wi g tYes te vs) (Ls K (xs.map res)) := by
  have z := ev_lcK (K := K) (te := te) (tt := tYes) G' (fun _ => true) res e hkp hg hw (fun _ _ => et_yes) (fun x hx _ => he x hx) hlen
  rw [List.filter_eq_self.mpr (fun _ _ => rfl)] at z
  exact z
theorem eo_lcK {α : Type} {wi : TI} {xs : List α} {f : α → As} {g : TG} {vs : List Nat} (G' : α → Gm) (cd : α → Bool) (res : α → As) {ws : List Nat} {Kp : Om → Prop} (e : SrcK Kp Γ Ω wi xs f) (hkp : Kp Ω) (hg : ∀ x, Gt (wipeG Γ vs) (f x) g (G' x) ws) (hw : ∀ i ∈ ws, i ∈ vs)
    (ht : ∀ x ∈ xs, EvT (G' x) Ω tt (cd x)) (he : ∀ x ∈ xs, cd x = true → Ev (G' x) Ω te (res x)) (hlen : xs.length ≤ 100000) : EvNw Γ Ω (tLc wi g tt te vs) (oL ((xs.filter cd).map res)) := fun Z F H σ c Q q =>
  e Z F H σ c _ fun J F1 H1 c1 s1 src => by
    intro D hD
    have cw : Ctx Z F1 H1 (L2.wipe σ vs) (wipeG Γ vs) Ω := c1.slots (c1.sat.wipe vs)
    let Pv : Nat → Hp → Prop := (fun k H' => ∃ F' acc, H' D = some (.lst acc) ∧ acc.length ≤ k ∧ All F' (((xs.take k).filter cd).map res) acc ∧ F' D = none ∧ ∃ G, Ctx Z F' G (L2.wipe σ vs) (wipeG Γ vs) Ω ∧ Ext [] F1 H1 F' G ∧ G D = none ∧ H' = upd G D (.lst acc))
    refine ⟨fun i m H => m = xs.length - i ∧ i ≤ xs.length ∧ Pv i H, ⟨_, rfl, Nat.zero_le _, F1, [], upd_same, Nat.zero_le _, trivial, c1.sub.free hD, H1, cw, Ext.refl _ _ _, hD, rfl⟩, ?_⟩
    rintro k m Hc ⟨rfl, hkn, pk⟩
    rcases Nat.lt_or_eq_of_le hkn with hk | hk
    · obtain ⟨F', acc, hA, hlA, hall, hFD, G, cG, eG, hGD, rfl⟩ := pk
      have hx : xs[k]? = some xs[k] := List.getElem?_eq_getElem hk
      have hmem : xs[k] ∈ xs := List.getElem_mem hk
      have cA0 : Ctx Z F' (upd G D (.lst acc)) (L2.wipe σ vs) (wipeG Γ vs) Ω := (cG.grow (A := ⟨fun _ _ => True, fun _ h => h⟩) (p := D) (o := .lst acc) hGD trivial).tail
      obtain ⟨go, yl⟩ := (src Z F' _ _ _ _ cA0 eG.fe hkp).2 k xs[k] hx
      refine .inr ⟨go, Pv (k + 1), fun H' p' => ⟨xs.length - (k + 1), by omega, rfl, hk, p'⟩, fun y H' hy => ?_⟩
      obtain ⟨F0, e0, s0, ry⟩ := yl y H' hy
      -- the list that is being made, as something owned
      have cA : Ctx Z F0 H' (L2.wipe σ vs) (wipeG Γ vs) Ω := cA0.step e0 s0
      have pres : ∀ {F2 H2 : Hp}, Ext [] F' (upd G D (.lst acc)) F2 H2 → H2 D = some (.lst acc) := fun e2 => e2.fr D _ upd_same List.not_mem_nil
      have back : ∀ {F2 H2 : Hp} {σ2 : L2.St} {Γ2 : Gm}, Ctx Z F2 H2 σ2 Γ2 Ω → Ext [] F' (upd G D (.lst acc)) F2 H2 → F2 D = none ∧ ∃ G2, Ctx Z F2 G2 (L2.wipe σ vs) (wipeG Γ vs) Ω ∧ Ext [] F1 H1 F2 G2 ∧ G2 D = none ∧ ∀ o, upd H2 D o = upd G2 D o := fun {F2 H2 σ2 Γ2} c2 e2 => by
        have f2 : F2 D = none := e2.nw D (by rw [upd_same]; exact fun z => by cases z) hFD
        let G2 : Hp := fun b => if b = D then none else H2 b
        have g2 : ∀ b, b ≠ D → G2 b = H2 b := fun b hb => if_neg hb
        have gD : G2 D = none := if_pos rfl
        have hext : Ext [] F' G F2 G2 := by
          refine ⟨e2.fe, fun b o h hn => ?_, fun b h => ?_, fun b h1 h2 => ?_⟩
          · have hb : b ≠ D := ne_of_none h hGD
            rw [g2 b hb]
            exact e2.fr b o (by rw [upd_ne hb]; exact h) hn
          · by_cases hb : b = D
            · rw [hb]; exact hGD
            · rw [g2 b hb] at h
              have := e2.dm b h
              rw [upd_ne hb] at this
              exact this
          · have hb : b ≠ D := fun z => h1 (by rw [z]; exact hGD)
            exact e2.nw b (by rw [upd_ne hb]; exact h1) h2
        have hsub : Same F2 G2 := fun b o h => by
          have hb : b ≠ D := ne_of_none h f2
          rw [g2 b hb]
          exact c2.sub b o h
        refine ⟨f2, G2, cG.step hext hsub, eG.trans hext, gD, fun o => ?_⟩
        funext b
        unfold upd
        by_cases hb : b = D
        · rw [if_pos hb, if_pos hb]
        · rw [if_neg hb, if_neg hb, g2 b hb]
      refine hg xs[k] Z F0 _ (L2.wipe σ vs) y Ω cA ry _ fun σ2 c2 hσ => ⟨(hσ vs hw).trans ?_, ?_⟩
      · exact wipe_wipe σ vs
      refine ht xs[k] hmem Z F0 _ σ2 c2 _ fun F3 H3 c3 e3' => ?_
      have e3 := e0.trans e3'
      cases hc : cd xs[k] with
      | false =>
        refine iteF ?_
        obtain ⟨f3, G3, cG3, eG3, gD3, up3⟩ := back c3 e3
        refine ⟨F3, acc, pres e3, by omega, ?_, f3, G3, cG3, eG3, gD3, ?_⟩
        · rw [filter_take hx, hc, if_neg Bool.false_ne_true, List.append_nil]
          exact hall.mono e3.fe
        · have := up3 (.lst acc)
          rw [← this]
          funext b
          unfold upd
          by_cases hb : b = D
          · rw [if_pos hb, hb]; exact pres e3
          · rw [if_neg hb]
      | true =>
        refine iteT ?_
        refine he xs[k] hmem hc Z F3 H3 σ2 c3 _ fun w F4 H4 c4 e4 rw' => ?_
        have e34 := e3.trans e4
        obtain ⟨f4, G4, cG4, eG4, gD4, up4⟩ := back c4 e34
        refine ⟨acc, pres e34, Nat.lt_of_le_of_lt (Nat.le_trans hlA (Nat.le_of_lt (Nat.lt_of_lt_of_le hk hlen))) (by decide), F4, acc ++ [w], upd_same, by rw [List.length_append]; exact Nat.succ_le_succ hlA, ?_, f4, G4, cG4, eG4, gD4, up4 _⟩
        rw [filter_take hx, hc, if_pos rfl, List.map_append]
        exact (hall.mono e34.fe).app ⟨rw', trivial⟩
    · subst hk
      obtain ⟨F', acc, hA, _, hall, hFD, G, cG, eG, hGD, rfl⟩ := pk
      have cA0 : Ctx Z F' (upd G D (.lst acc)) (L2.wipe σ vs) (wipeG Γ vs) Ω := (cG.grow (A := ⟨fun _ _ => True, fun _ h => h⟩) (p := D) (o := .lst acc) hGD trivial).tail
      refine .inl ⟨(src Z F' _ _ _ _ cA0 eG.fe hkp).1, ?_⟩
      rw [List.take_length] at hall
      exact q D F' _ (((c1.step eG cG.sub).grow (A := oL ((xs.filter cd).map res)) hGD ⟨acc, rfl, hall⟩)) (s1.trans (eG.trans (Ext.newH hGD))) (s1.dm _ (eG.dm _ hGD)) 
end
end Y

namespace PySem.W
open PySem PySem.Calls PyProof.Rows PyProof.V PySem.Spec
section
variable {prog : Program} {w : World} {A : Around} {E : Value → Shared → Prop} {s : Shared} {T : String} {r d : Addr} {n : Nat} {P : Nat → Value → Prop} {OK : Heap → Prop} {Q : Value → Shared → Prop}
theorem kdu_sum0 (K : KdlSrc prog w T r d n P OK) (hh : A.handled = none) (hok : OK s.heap) (val : Nat → Int) (hval : ∀ (i : Nat) (v : Value), P i v → ∃ t : Tok, v = Value.int (val i) t)
    (h : ∀ (h' : Heap) (tk : Nat) (t' : Tok), (∀ b o, s.heap.get? b = some o → h'.get? b = some o) → Q (.int (preSum val n) t') { s with heap := h', toks := tk }) :
    wpAny (model prog w) A (call (.builtin "sum") [.ref r]) Q E s := by
  refine call_sum_walkAnyS ?_
  obtain ⟨oI, St, hit, W, st⟩ := K.iter A.in1 s hh hok
  refine hit _ _ ⟨s.heap.objs.size, _, _, _, n, P, _, val, rfl, W.toS, st, fun b hb => ?_, hval, fun s' t' hm => ?_⟩
  · show b < (s.heap.push oI).objs.size
    rw [size_push']
    rcases List.mem_cons.mp hb with e | hb
    · rw [e]; exact Nat.lt_succ_self _
    · rw [List.mem_singleton.mp hb]; exact Nat.lt_succ_of_lt (K.there _ hok).2
  · have hk : ∀ b o, s.heap.get? b = some o → s'.heap.get? b = some o := fun b o e =>
      hm.heap b o (fun hI => absurd (Heap.lt_size e) (by rw [List.mem_singleton.mp hI]; exact Nat.lt_irrefl _)) (Heap.get?_push_of_some _ e)
    rw [Moved.eq_with hm]
    exact h s'.heap s'.toks t' hk
end
end PySem.W
namespace Y
open PySem L2 PySem.Spec
open PyProof.Rows (envOfC)
/-! ## sum(d.values()) -/
def tSumV (td : TE) : TE := fun σ H Q => td σ H fun x H1 => ∃ (d : Addr) (kvs : List (Key × V)) (ns : List Int), x = .ref d ∧ Rd H1 d (.dK kvs) ∧ kvs.map (·.2) = ns.map V.int ∧ Q (.int ns.sum) H1
theorem preSum_ints : ∀ (ns : List Int) (val : Nat → Int), (∀ (i : Nat) (n : Int), ns[i]? = some n → val i = n) → ∀ k, k ≤ ns.length → preSum val k = (ns.take k).sum
  | _, _, _, 0, _ => rfl
  | ns, val, hv, k + 1, hk => by
    have hx : ns[k]? = some ns[k] := List.getElem?_eq_getElem hk
    show preSum val k + val k = _
    rw [preSum_ints ns val hv k (Nat.le_of_succ_le hk), hv k _ hx, List.take_succ, hx, List.sum_append]
    simp
theorem pe_sumVals {X : Cx} {e : Expr} {td : TE} {p0 pos apos cpos : Pos} (hc : X.calm = true) (hgs : Gl X "sum") (hms : X.mg "sum" = none) (he : PE X e td)
    (hbase : attributeBase e "values" X.env (eval e X.env) = eval e X.env := by rfl) (hline : (apos.endLine == cpos.line) = true := by rfl)
    (hs1 : starEach [.Call (.Attribute e "values" apos) [] [] cpos] X.env = (false, eval (.Call (.Attribute e "values" apos) [] [] cpos) X.env) :: starEach [] X.env := by rfl)
    (hp1 : (backTo pos (starEach [] X.env)).any (·.1) = false := by rfl) :
    PE X (.Call (.Name "sum" p0) [.Call (.Attribute e "values" apos) [] [] cpos] [] pos) (tSumV td) := by
  refine ⟨fun pins s σ H Q I h => ?_⟩
  refine wpAny_Call_Name_kw (ld_blt I hgs hms PyProof.Rows.boot_sum ?_)
  refine PyProof.Rows.callWith_builtin1 ?_ hs1 hp1
  rw [hs1]
  show wpAny _ _ (spliced ((false, eval (.Call (.Attribute e "values" apos) [] [] cpos) X.env) :: backTo pos (starEach [] X.env))) _ _ s
  refine Calls.spliced_cons ?_
  refine wpAny_Call_method (T := "dict") (id := "dict.values") hbase rfl hline F.plainAttrs_dict F.slot_dict_values F.type_dict_values (thn (he.run pins s σ H _ I h) fun u s1 ⟨x, H1, I1, rx, d, kvs, ns, ex, hd, hv, q⟩ => ?_)
  subst ex
  obtain rfl : u = Value.ref d := rx
  obtain ⟨z, lo, vs, rel, dd⟩ := dk_rd I1.hok hd
  obtain ⟨ep, hat⟩ := dd.dictAt
  refine ⟨dd.typeIs, dd.mapOf.noDict, ?_⟩
  have hl : kvs.length = vs.length := Paired.length rel
  have hn : ns.length = kvs.length := by have := congrArg List.length hv; rw [List.length_map, List.length_map] at this; exact this.symm
  have I2 : Inv X pins σ H1 { s1 with heap := s1.heap.push { cls := .type "dict_values", data := .fields #[.ref d] } } := I1.kept (t' := s1.toks) fun b ob q => Heap.get?_push_of_some _ q
  have at_ : ∀ (i : Nat) (n : Int), ns[i]? = some n → (fun j => (ns[j]?).getD 0) i = n := fun i n hi => by
    show (ns[i]?).getD 0 = n
    rw [hi]; rfl
  show wpAny _ _ (callWith cpos (.builtin "dict.values") [.ref d] [] []) _ X.xe s1
  refine method_meetsIn F.slot_dict_values F.entry_dict_values rfl (PySem.evalArgs_none ⟨rfl, dd.typeIs, F.args_dict_values_1 _, _, meets_dict_values (mixKind X.prog X.w) d lo, ⟨vs, dd⟩, Calls.spliced_nil ?_⟩)
  refine PySem.W.kdu_sum0 (PySem.W.kdl_values (knd := mixKind X.prog X.w) (kvs := vs) (ep := ep)) (I1.ok.hd hc) ⟨⟨_, Heap.get?_push_size _ rfl, rfl, rfl⟩, ?_⟩ (fun j => (ns[j]?).getD 0) (fun i u hu => ?_) fun h' tk t' hk => ?_
  · exact hat.at fun o q => Heap.get?_push_of_some _ q
  · obtain ⟨k, hx⟩ := hu
    have hi : i < ns.length := by have := (List.getElem?_eq_some_iff.mp hx).1; omega
    obtain ⟨b, eb, rb⟩ := paired_get rel (List.getElem?_eq_getElem (show i < kvs.length by omega))
    rw [hx] at eb
    cases eb
    have e2 : (kvs.map (·.2))[i]? = (ns.map V.int)[i]? := by rw [hv]
    rw [List.getElem?_map, List.getElem?_map, List.getElem?_eq_getElem hi, List.getElem?_eq_getElem (show i < kvs.length by omega)] at e2
    have e3 : (kvs[i]'(by omega)).2 = V.int ns[i] := Option.some.inj e2
    have r2 := rb.2
    rw [e3] at r2
    obtain ⟨t, ht⟩ := r2
    refine ⟨t, ?_⟩
    show u = Value.int ((ns[i]?).getD 0) t
    rw [List.getElem?_eq_getElem hi]
    exact ht
  · have e : preSum (fun j => (ns[j]?).getD 0) vs.length = ns.sum := by
      rw [← hl, ← hn, preSum_ints ns _ at_ ns.length (Nat.le_refl _), List.take_length]
    rw [e]
    exact ⟨.int ns.sum, H1, I2.kept (t' := tk) hk, ⟨t', rfl⟩, q⟩
theorem ev_sumVals {Γ : Gm} {Ω : Om} {te : TE} {l : List (Str × Int)} (ha : DkS Γ Ω te (l.map fun p => (p.1, I p.2))) : Ev Γ Ω (tSumV te) (I (l.map (·.2)).sum) := fun Z F H σ c Q q =>
  ha Z F H σ c _ fun a F1 H1 c1 s1 hd => by
    obtain ⟨kvs, h1, h2⟩ := hd F1 H1 c1 (Same.refl _)
    have h3 := h2.vals
    rw [List.map_map] at h3
    have h4 : kvs.map (·.2) = (l.map (·.2)).map V.int := by
      have := all_map (g := fun p : Str × Int => p.2) (xs := l) (show All F1 (l.map fun x => I x.2) (kvs.map (·.2)) from h3)
      rw [this]
    exact ⟨a, kvs, _, rfl, h1, h4, q _ F1 H1 c1 s1 rfl⟩
/-! ## a def of a class, called by the class's name -/
structure Tf (K : PySem.W.Frag) (mg : Str → Option Value) (cn m qual : Str) (st : Stmt) (ps : List Str) : Prop where
  ex : ∃ D f fd, mg cn = some (.ref D) ∧ PySem.W.specialIn K (.ref D) "__getattribute__" = some (some (.builtin "type.__getattribute__")) ∧ PySem.W.readsIn K D (.type "type") = true ∧ PySem.W.findCls K (.ref D) (.type "type") m = some (.val (.ref f)) ∧ Fun K m qual st f fd ∧ Binds K fd ps []
structure Df (P : Program) (w : World) (K : PySem.W.Frag) (mg : Str → Option Value) (base : Heap) (k : Nat) (cn m : Str) (ps : List Str) (sp : Sp) : Prop where
  ex : ∃ D f fd, mg cn = some (.ref D) ∧ PySem.W.specialIn K (.ref D) "__getattribute__" = some (some (.builtin "type.__getattribute__")) ∧ PySem.W.readsIn K D (.type "type") = true ∧ PySem.W.findCls K (.ref D) (.type "type") m = some (.val (.ref f)) ∧ PySem.W.keepIn K (.ref f) = true ∧ Binds K fd ps [] ∧ FnOk P w K mg base (L2N.CX P w) k f fd ps sp
section
variable {P : Program} {w : World} {K : PySem.W.Frag} {mg : Str → Option Value} {base : Heap} {D : Addr} {cn m qual : Str} {st : Stmt} {N ps : List Str} {k : Nat} {sp : Sp} {dvs : List V}
theorem Tf.ok (T : Tf K mg cn m qual st ps) (S : FnScope N ps (defScope st)) (len : ∀ vs H Q E, sp vs H Q E → vs.length = ps.length)
    (hbody : ∀ (f : Addr) (cdv : Value) (A : Around) (outer : List Env) (s : Shared) (H : Hp) (vs : List V) (Q : VK) (E : XK), Room k (A.deeper (envOfC qual (defScope st) s.heap.objs.size f cdv)) → sp vs H Q E →
      ∃ t, PSs (cxOf CX0 P w K mg base N qual (defScope st) f cdv A outer s H E).nox (defBody st) t ∧ t { nx := fun _ H' => Q .non H', rt := Q } (L2.start N vs) H) : Df P w K mg base (k + 1) cn m ps sp := by
  obtain ⟨D, f, fd, h1, h2, h3, h4, F, b⟩ := T.ex
  exact ⟨D, f, fd, h1, h2, h3, h4, F.kp, b, FnOk_x (F.ok S len (hbody f))⟩
theorem tf_mk {f : Addr} {oc : Value} {od an : Option Addr} {osl : Array (Option Value)} {kV doc pm cdv ct : Value} {h : Heap} (X : K.In h) (G : h.Ns mainGlobals mg) (g : PySem.W.nsIn K mainGlobals cn = some (some (.ref D)))
    (ga : PySem.W.specialIn K (.ref D) "__getattribute__" = some (some (.builtin "type.__getattribute__"))) (rd : PySem.W.readsIn K D (.type "type") = true) (a : PySem.W.findCls K (.ref D) (.type "type") m = some (.val (.ref f)))
    (l : K.lookup f = some ⟨oc, od, .func (PySem.W.fnOf m qual (defArgs st) (defBody st) (defScope st) .none kV doc pm an cdv ct), osl⟩) (c : PySem.W.codeIn K cdv qual = true) (kk : PySem.W.keepIn K (.ref f) = true)
    (hb : ∀ (kV doc pm : Value) (an : Option Addr) (cdv ct : Value) (us : List Value), us.length = ps.length → bindArgs (PySem.W.fnOf m qual (defArgs st) (defBody st) (defScope st) .none kV doc pm an cdv ct) ⟨us, []⟩ = pure (ps.zip us)) : Tf K mg cn m qual st ps :=
  ⟨D, f, _, PySem.W.mg_of X G g, ga, rd, a, fun_mk l c kk, (fun_mk l c kk).binds hb⟩
section
variable {X : Cx} {p1 p pos apos : Pos} {e o : Expr} {es : List Expr} {t : TA}
theorem pe_df {pl : Sem Bool} (D : Df X.prog X.w X.K X.mg X.base k cn m ps sp) (hr : Room k X.A) (hg : Gl X cn) (ha : PA X (e :: es) t) (hdb : (cn == ("__debug__" : Str)) = false := by decide)
    (hst : starEach (e :: es) X.env = (false, eval e X.env) :: starEach es X.env := by rfl) (hpl : (backTo pos (starEach es X.env)).any (·.1) = false := by rfl)
    (ht : eval (.Call (.Attribute (.Name cn p1) m apos) (e :: es) [] pos) X.env = (do
      let ov ← eval (.Name cn p1) X.env
      standAt apos.atName
      let (f, first) ← holding [ov] (getMethod ov m pl)
      callWith pos f first (backTo pos (starEach (e :: es) X.env)) (backToKw pos (keywordEach [] X.env))) := by rfl) :
    PE X (.Call (.Attribute (.Name cn p1) m apos) (e :: es) [] pos) (tCall sp [] E0 t) := by
  obtain ⟨Da, f, fd, h1, h2, h3, h4, kp, b, G⟩ := D.ex
  refine ⟨fun pins s σ H Q I h => ?_⟩
  refine PySem.W.methodCall_KW (pl := pl) (ld_glob I hg h1 ?_ hdb) ht
  refine PySem.W.method_cls I.kIn h2 (PySem.W.cls_value I.kIn h3 h4 rfl ?_)
  have I2 := I.tok (s.toks + 1)
  refine PySem.W.callWith_K (first := []) (h₀ := X.base) I.ok.mod.kin kp (thn (ha.run pos pins _ σ H _ I2 h) fun us s1 ⟨vs, H1, I1, r, q⟩ => ⟨I1.kIn, ?_⟩) hst hpl
  exact run_fn G hr b .nil passL I1 r q
end
end
/-! ## texts -/
theorem isd_strs {K : PySem.W.Frag} (xs : List Str) : IsD K (Ls K (xs.map fun x => S x)) (.list (xs.map PyData.str)) := isd_lst (alld_map (fun _ => isd_str) xs)
theorem gd_strs {xs : List Str} (h : ∀ x ∈ xs, PyData.strOk x = true) : Gd 1 (.list (xs.map PyData.str)) := gd_list fun d hd => by
  obtain ⟨x, hx, e⟩ := List.mem_map.mp hd
  subst e
  exact ⟨by simp [PyData.canLay0, h x hx], Nat.le_refl _⟩
theorem eqv_strs (xs ys : List Str) : PyData.eqv (.list (xs.map PyData.str)) (.list (ys.map PyData.str)) = decide (xs = ys) := by
  have h : PyData.eqvAll (xs.map PyData.str) (ys.map PyData.str) = true ↔ xs = ys := eqv_map (fun x y => by simp [PyData.eqv]) xs ys
  have e : PyData.eqv (.list (xs.map PyData.str)) (.list (ys.map PyData.str)) = PyData.eqvAll (xs.map PyData.str) (ys.map PyData.str) := by simp [PyData.eqv]
  rw [e]
  by_cases q : xs = ys
  · rw [decide_eq_true q]; exact h.mpr q
  · rw [decide_eq_false q]; exact Bool.eq_false_iff.mpr fun z => q (h.mp z)
section
variable {Z : Bs} {F H F' H' : Hp} {σ σ' : L2.St} {Γ Γ' : Gm} {Ω Ω' Ωr : Om} {K : PySem.W.Frag} {te ta ti tl : TE} {n : L2.St → Hp → Prop} {r : VK} {bk ct : L2.St → Hp → Prop} {R : As} {Rs : List As} {p : Addr} {j : Nat}
theorem st_rev (c : Ctx Z F H σ Γ Ω) (h : Ev Γ Ω ta (Rf p)) (hm : Ω[j]? = some (p, oL Rs)) (k : ∀ F' H', Ctx Z F' H' σ Γ (Ω.set j (p, oL Rs.reverse)) → n σ H') (hw : Wr Z p) :
    tDrop (tBM0 K "list" rReverse ta) ⟨n, r, bk, ct⟩ σ H :=
  h Z F H σ c _ fun x F1 H1 c1 s1 rx => by
    cases rx
    obtain ⟨_, o, h2, ys, eo, hl⟩ := c1.own _ (List.mem_of_getElem? hm)
    subst eo
    exact ⟨.inl ⟨rfl, ys, SqL.of h2⟩, p, ys, rfl, rfl, h2, k F1 _ (c1.chg hm ⟨_, rfl, hl.rev⟩ hw)⟩
theorem rc_intB {b : Bool} : RC (fun xs H Q => (∃ i, xs = [.int i] ∧ Q (.int i) H) ∨ ∃ k, xs = [.bl k] ∧ Q (.int (if k then 1 else 0)) H) [B b] (I (if b then 1 else 0)) := fun F H vs s h Q q => by
  obtain ⟨v, rfl, e⟩ := h.one
  cases e
  exact .inr ⟨b, rfl, q _ F H (Ext.refl _ _ _) s rfl⟩
theorem ev_eqStrs {xs ys : List Str} (ha : Ev Γ Ω ta (Ls K (xs.map fun x => S x))) (hb : Ev Γ Ω te (Ls K (ys.map fun x => S x))) (h1 : ∀ x ∈ xs, PyData.strOk x = true) (h2 : ∀ x ∈ ys, PyData.strOk x = true) : Ev Γ Ω (tOp (rEqD K) ta te) (B (decide (xs = ys))) :=
  ev_is (ev_eqD ha hb (isd_strs xs) (isd_strs ys) (gd_strs h1) (gd_strs h2)) (congrArg (fun b : Bool => B b) (eqv_strs xs ys))
theorem ev_neStrs {xs ys : List Str} (ha : Ev Γ Ω ta (Ls K (xs.map fun x => S x))) (hb : Ev Γ Ω te (Ls K (ys.map fun x => S x))) (h1 : ∀ x ∈ xs, PyData.strOk x = true) (h2 : ∀ x ∈ ys, PyData.strOk x = true) : Ev Γ Ω (tOp (rNeD K) ta te) (B (!decide (xs = ys))) :=
  ev_is (ev_neD ha hb (isd_strs xs) (isd_strs ys) (gd_strs h1) (gd_strs h2)) (congrArg (fun b : Bool => B (!b)) (eqv_strs xs ys))
theorem eqv_strs_nil (xs : List Str) : PyData.eqv (.list (xs.map PyData.str)) (.list []) = xs.isEmpty := by
  have := eqv_strs xs []
  rw [List.map_nil] at this
  rw [this]
  cases xs <;> simp
/-- x == [], x a list of texts -/
theorem ev_cmpNilS {xs : List Str} (neg : Bool) (ha : Lk K Γ Ω ta (xs.map fun x => S x)) (hk : ∀ x ∈ xs, PyData.strOk x = true) : Ev Γ Ω (tOp (if neg then rNeD K else rEqD K) ta (tLst tNil)) (B (if neg then !xs.isEmpty else xs.isEmpty)) := fun Z F H σ c Q q =>
  ha Z F H σ c _ fun a F1 H1 c1 s1 hs => ⟨by decide, fun p hp => by
    obtain ⟨e2, s2⟩ := Ext.new (o := .lst []) c1.sub hp
    have c2 := c1.step e2 s2
    obtain ⟨ys, h2, hl⟩ := hs _ _ c2 e2.fe
    have d1 : Dp K (upd H1 p (.lst [])) (.ref a) (.list (xs.map PyData.str)) := .lst h2 (dpall (alld_map (fun _ => isd_str) xs) c2.sub hl)
    have d2 : Dp K (upd H1 p (.lst [])) (.ref p) (.list []) := .lst (SqL.of upd_same) .nil
    have sh1 := (gd_strs hk).shaped (by decide)
    have sh2 : SeqAt.shaped (.list []) = true := (gd_list (ds := []) (k := 0) fun d hd => absurd hd List.not_mem_nil).shaped (by decide)
    cases neg with
    | true => exact ⟨_, _, d1, d2, sh1, sh2, by rw [eqv_strs_nil]; exact q _ _ _ c2 (s1.trans e2) rfl⟩
    | false => exact ⟨_, _, d1, d2, sh1, sh2, by rw [eqv_strs_nil]; exact q _ _ _ c2 (s1.trans e2) rfl⟩⟩
theorem in_strs {x : Str} : ∀ {xs : List Str}, inV (.str x) (xs.map V.str) = decide (x ∈ xs)
  | [] => by simp [inV]
  | y :: xs => by
    have ih := in_strs (x := x) (xs := xs)
    unfold inV at ih ⊢
    rw [List.map_cons, List.any_cons, ih]
    by_cases h : y = x
    · subst h; simp [eqV]
    · have : ¬ x = y := fun z => h z.symm
      simp [eqV, h, this]
theorem flat_strs : ∀ {xs : List Str}, (xs.map V.str).all flatV = true
  | [] => rfl
  | _ :: _ => by rw [List.map_cons, List.all_cons, flat_strs]; rfl
theorem all_strV {F : Hp} : ∀ {xs : List Str} {ys : List V}, All F (xs.map fun x => S x) ys → ys = xs.map V.str
  | [], [], _ => rfl
  | x :: xs, y :: ys, ⟨h1, h2⟩ => by rw [show y = .str x from h1, all_strV h2]; rfl
  | [], _ :: _, h => h.elim
  | _ :: _, [], h => h.elim
/-- x in l, x not in l, l a list of texts -/
theorem ev_inStr {x : Str} {xs : List Str} (neg : Bool) (ha : Ev Γ Ω ta (S x)) (hb : Lk K Γ Ω te (xs.map fun x => S x)) : Ev Γ Ω (tOp (rIn K neg) ta te) (B (if neg then !decide (x ∈ xs) else decide (x ∈ xs))) := fun Z F H σ c Q q =>
  ha Z F H σ c _ fun v F1 H1 c1 s1 rv => hb Z F1 H1 σ c1 _ fun a F2 H2 c2 s2 hs => by
    cases rv
    obtain ⟨ys, h2, hl⟩ := hs F2 H2 c2 (Same.refl _)
    have e := all_strV hl
    subst e
    refine ⟨a, _, rfl, .inl h2, rfl, flat_strs, ?_⟩
    rw [in_strs]
    cases neg <;> exact q _ F2 H2 c2 (s1.trans s2) rfl
end
theorem srck_is {α : Type} {Kp : Om → Prop} {Γ : Gm} {Ω : Om} {wi : TI} {xs ys : List α} {f : α → As} (h : SrcK Kp Γ Ω wi xs f) (e : xs = ys) : SrcK Kp Γ Ω wi ys f := e ▸ h
theorem mem_at {Ω : Om} {j : Nat} {x : Addr × OA} (h : Ω[j]? = some x) : x ∈ Ω := List.mem_of_getElem? h
section
variable {Z : Bs} {F H F' H' : Hp} {σ σ' : L2.St} {Γ Γ' : Gm} {Ω Ω' Ωr : Om} {K : PySem.W.Frag} {te ta ti tl : TE} {n : L2.St → Hp → Prop} {r : VK} {bk ct : L2.St → Hp → Prop} {R : As} {Rs : List As} {p C dx : Addr} {j : Nat} {f : Str} {fs : List (Str × As)} {E : XK}
/-- o.f = e, where e changes what is owned -/
theorem em_fld (c : Ctx Z F H σ Γ Ω) (e : EvM Z Γ Ω te R Ω') (ha : Ev Γ Ω' ta (Rf p)) (hm : Ω'[j]? = some (p, oI C dx fs)) (hc : Cls K C) (hn : NoAttr K C f) (hl : fs.length < 1000) (k : ∀ F' H', Ctx Z F' H' σ Γ (Ω'.set j (p, oI C dx (putA f R fs))) → Same F F' → n σ H') (hw : Wr Z p) :
    sFld K ta te f ⟨n, r, bk, ct⟩ σ H :=
  e F H σ c _ fun y F1 H1 c1 s1 ry => ha Z F1 H1 σ c1 _ fun x F2 H2 c2 s2 rx => by
  cases rx
  obtain ⟨_, o, h2, vs, eo, ha⟩ := c2.own _ (List.mem_of_getElem? hm)
  subst eo
  refine ⟨p, C, dx, vs, rfl, h2, hc, hn, by rw [ha.length]; exact hl, ?_⟩
  exact k F2 _ (c2.chg hm ⟨_, rfl, ha.put (R.mono s2.fe ry)⟩ hw) (s1.trans s2.fe)
/-- a def called by its name that changes what is owned, and hands out more -/
theorem cl_G {α β : Type} {args : α → List As} {Oi : α → Om} {pre : α → Prop} {post : α → β → Prop} {res : α → β → As} {Oo : α → β → Om} {t : TA} {Q : VK} (a : α) (c : Ctx Z F H σ Γ Ω) (h : EvA Γ Ω t (args a)) (hs : Ω.Perm (Oi a ++ Ωr)) (hp : pre a) (hw : ∀ x ∈ (Oi a).map (·.1), Wr Z x)
    (k : ∀ b v F' H', post a b → Ctx Z F' H' σ Γ (Oo a b ++ Ωr) → Same F F' → (res a b).p F' v → Q v H') : tCall (CtG args Oi pre post res Oo) [] E t σ H Q :=
  h Z F H σ c _ fun vs F1 H1 c1 s1 rs => by
    have cp := c1.perm hs
    have nd := cp.nd
    rw [List.map_append, List.nodup_append] at nd
    exact ⟨a, F1, cp.sub, by rw [List.append_nil]; exact rs, cp.own.sub fun x hx => List.mem_append_left _ hx, nd.1, hp, fun b v F3 H3 hb e3 s3 rv ow nd2 hn => k b v F3 H3 hb (cp.changedG e3 s3 ow nd2 hn hw) (s1.fe.trans e3.fe) rv⟩
theorem wr_sub {l : List Addr} (h : ∀ x ∈ l, Wr Z x) {x : Addr} (hx : x ∈ l) : Wr Z x := h x hx
end
end Y

namespace Y
open PySem L2
section
variable {Z : Bs} {F H F' H' : Hp} {σ σ' : L2.St} {Γ Γ' : Gm} {Ω Ω' Ωr : Om} {K : PySem.W.Frag} {te ta tb ti tl : TE} {tt : TT} {n : L2.St → Hp → Prop} {r : VK} {bk ct : L2.St → Hp → Prop} {R : As} {Rs : List As} {p : Addr} {j : Nat}
/-! texts that may be missing -/
def oV : Option Str → V
  | none => .non
  | some x => .str x
theorem op_oV {o : Option Str} {F : Hp} {v : V} (h : (Op (fun x => S x) o).p F v) : v = oV o := by
  cases o <;> exact h
theorem ev_eqOS {o : Option Str} {y : Str} (ha : Ev Γ Ω ta (Op (fun x => S x) o)) (hb : Ev Γ Ω tb (S y)) : Ev Γ Ω (tOp rEq ta tb) (B (decide (o = some y))) := ev_op ha hb fun F H v w s e e' Q q => by
  have e := op_oV e
  cases e'
  subst e
  refine ⟨by cases o <;> rfl, ?_⟩
  have z : decide (oV o = V.str y) = decide (o = some y) := by
    cases o with
    | none => simp [oV]
    | some x => simp [oV]
  rw [z]
  exact q _ F H (Ext.refl _ _ _) s rfl
theorem ev_neOS {o : Option Str} {y : Str} (ha : Ev Γ Ω ta (Op (fun x => S x) o)) (hb : Ev Γ Ω tb (S y)) : Ev Γ Ω (tOp rNe ta tb) (B (!decide (o = some y))) := ev_op ha hb fun F H v w s e e' Q q => by
  have e := op_oV e
  cases e'
  subst e
  refine ⟨by cases o <;> rfl, ?_⟩
  have z : decide (oV o = V.str y) = decide (o = some y) := by
    cases o with
    | none => simp [oV]
    | some x => simp [oV]
  rw [z]
  exact q _ F H (Ext.refl _ _ _) s rfl
/-- x.remove(e), x an owned list of texts -/
theorem st_remS {xs : List Str} {k0 : Nat} {y : Str} (hok : ∀ x ∈ xs, PyData.strOk x = true) (hoy : PyData.strOk y = true) (c : Ctx Z F H σ Γ Ω) (h : Ev Γ Ω ta (Rf p)) (hm : Ω[j]? = some (p, oL (xs.map fun x => S x))) (e : Ev Γ Ω te (S y)) (h0 : xs[k0]? = some y) (h1 : ∀ m < k0, xs[m]? ≠ some y) (hw : Wr Z p) (k : ∀ F' H', Ctx Z F' H' σ Γ (Ω.set j (p, oL ((xs.eraseIdx k0).map fun x => S x))) → Same F F' → n σ H') :
    tDrop (tBM K "list" (rRemD K) ta (tCons te tNil)) ⟨n, r, bk, ct⟩ σ H :=
  h Z F H σ c _ fun v F1 H1 c1 s1 rv => by
    cases rv
    obtain ⟨_, o, h2, zs, eo, hx⟩ := c1.own _ (List.mem_of_getElem? hm)
    refine ⟨.inl ⟨rfl, _, SqL.of (by rw [h2, eo])⟩, ?_⟩
    refine e Z F1 H1 σ c1 _ fun w F2 H2 c2 s2 rw' => ?_
    obtain ⟨_, o, h2, zs, eo, hx⟩ := c2.own _ (List.mem_of_getElem? hm)
    have hs : ∀ x, IsD K (S x) (PyData.str x) := fun x => isd_str
    refine ⟨p, zs, w, xs.map PyData.str, .str y, k0, rfl, rfl, by rw [h2, eo], dpall (alld_map hs xs) c2.sub hx, (hs y).dp F2 H2 w c2.sub rw', ?_, ?_, ⟨.str y, by rw [List.getElem?_map, h0]; rfl, by simp [PyData.eqv]⟩, ?_, ?_⟩
    · intro q hq
      obtain ⟨z, hz, ez⟩ := List.mem_map.mp hq
      rw [← ez]
      exact ⟨by simp [PyData.canLay0, hok z hz], Nat.zero_le _⟩
    · exact ⟨by simp [PyData.canLay0, hoy], Nat.zero_le _⟩
    · intro m hm2 q hq
      rw [List.getElem?_map] at hq
      obtain ⟨z, hz, ez⟩ := Option.map_eq_some_iff.mp hq
      rw [← ez]
      cases e2 : (PyData.str z).eqv (.str y) with
      | false => rfl
      | true =>
        have : z = y := by simpa [PyData.eqv] using e2
        exact absurd (by rw [hz, this]) (h1 m hm2)
    · refine k F2 _ (c2.chg hm ⟨_, rfl, ?_⟩ hw) (s1.fe.trans s2.fe)
      rw [← map_eraseIdx]
      exact All.erase k0 hx
/-- an owned list, its items told, while an expression runs -/
theorem Ctx.fix (c : Ctx Z F H σ Γ Ω) (hm : Ω[j]? = some (p, oL Rs)) : ∃ ys, Ctx Z F H σ Γ (Ω.set j (p, oX ys Rs)) := by
  obtain ⟨hf, o0, h0, ys, e0, hx⟩ := c.own _ (List.mem_of_getElem? hm)
  dsimp only at hf h0
  refine ⟨ys, c.sat, c.sub, fun x hx2 => ?_, own_nd c hm, fun x hx2 => ?_, c.ext, c.pin⟩
  · rcases own_look c hm x hx2 with z | ⟨hx2, z⟩
    · subst z; exact ⟨hf, o0, h0, e0, hx⟩
    · exact c.own x hx2
  · rcases own_look c hm x hx2 with z | ⟨hx2, z⟩
    · have z2 : x.1 = p := by rw [z]
      rw [z2]; exact c.loc _ (List.mem_of_getElem? hm)
    · exact c.loc x hx2
theorem set_back {A : OA} (hm : Ω[j]? = some (p, oL Rs)) : (Ω.set j (p, A)).set j (p, oL Rs) = Ω := by
  have hj : j < Ω.length := (List.getElem?_eq_some_iff.mp hm).1
  rw [List.set_set]
  refine List.ext_getElem? fun i => ?_
  by_cases z : j = i
  · subst z; rw [List.getElem?_set_self hj, hm]
  · rw [List.getElem?_set_ne z]
theorem Ctx.unfix {ys : List V} (hm : Ω[j]? = some (p, oL Rs)) (c : Ctx Z F H σ Γ (Ω.set j (p, oX ys Rs))) : Ctx Z F H σ Γ Ω := by
  have hj : j < Ω.length := (List.getElem?_eq_some_iff.mp hm).1
  have := c.recast (B := oL Rs) (j := j) (List.getElem?_set_self hj) (fun o h => ⟨ys, h.1, h.2⟩)
  rw [set_back hm] at this
  exact this
theorem ev_fix (hm : Ω[j]? = some (p, oL Rs)) (h : ∀ ys, Ev Γ (Ω.set j (p, oX ys Rs)) te R) : Ev Γ Ω te R := fun Z F H σ c Q q => by
  obtain ⟨ys, c1⟩ := c.fix hm
  exact h ys Z F H σ c1 Q fun v F1 H1 c2 s1 rv => q v F1 H1 (c2.unfix hm) s1 rv
end
theorem idx_first {y : Str} : ∀ {xs : List Str}, y ∈ xs → ∃ k0, xs[k0]? = some y ∧ (∀ m < k0, xs[m]? ≠ some y) ∧ xs.eraseIdx k0 = xs.erase y
  | [], h => absurd h List.not_mem_nil
  | x :: xs, h => by
    by_cases e : x = y
    · subst e
      exact ⟨0, rfl, fun m hm => absurd hm (Nat.not_lt_zero _), by rw [List.erase_cons_head]; rfl⟩
    · have h' : y ∈ xs := (List.mem_cons.mp h).resolve_left (fun z => e z.symm)
      obtain ⟨k, h1, h2, h3⟩ := idx_first h'
      refine ⟨k + 1, h1, fun m hm => ?_, ?_⟩
      · cases m with
        | zero => intro z; exact e (Option.some.inj z)
        | succ m => exact h2 m (by omega)
      · rw [List.erase_cons_tail (by simpa using e), ← h3]; rfl
/-! sorted of texts -/
def leS (x y : Str) : Prop := PySem.Spec.ltCps y.cps.toList x.cps.toList = false
theorem lt_irr : ∀ a b : List Nat, PySem.Spec.ltCps a b = false → PySem.Spec.ltCps b a = false → a = b
  | [], [], _, _ => rfl
  | [], _ :: _, h, _ => by cases h
  | _ :: _, [], _, h => by cases h
  | a :: r, b :: t, h1, h2 => by
    have h1 : (decide (a < b) || (a == b && PySem.Spec.ltCps r t)) = false := h1
    have h2 : (decide (b < a) || (b == a && PySem.Spec.ltCps t r)) = false := h2
    obtain ⟨p1, p2⟩ := Bool.or_eq_false_iff.mp h1
    obtain ⟨q1, q2⟩ := Bool.or_eq_false_iff.mp h2
    have e : a = b := by have := of_decide_eq_false p1; have := of_decide_eq_false q1; omega
    subst e
    rw [lt_irr r t (by simpa using p2) (by simpa using q2)]
theorem lt_tr : ∀ a b c : List Nat, PySem.Spec.ltCps b a = false → PySem.Spec.ltCps c b = false → PySem.Spec.ltCps c a = false
  | [], [], _, _, h => h
  | [], _ :: _, [], _, _ => rfl
  | [], b :: t, c :: u, h1, h2 => by
    show false = false
    rfl
  | a :: r, [], _, h, _ => by cases h
  | a :: r, b :: t, [], _, h => by cases h
  | a :: r, b :: t, c :: u, h1, h2 => by
    have h1 : (decide (b < a) || (b == a && PySem.Spec.ltCps t r)) = false := h1
    have h2 : (decide (c < b) || (c == b && PySem.Spec.ltCps u t)) = false := h2
    obtain ⟨p1, p2⟩ := Bool.or_eq_false_iff.mp h1
    obtain ⟨q1, q2⟩ := Bool.or_eq_false_iff.mp h2
    have a1 := of_decide_eq_false p1
    have a2 := of_decide_eq_false q1
    show (decide (c < a) || (c == a && PySem.Spec.ltCps u r)) = false
    rw [decide_eq_false (by omega), Bool.false_or]
    by_cases e : c = a
    · subst e
      have e2 : b = c := by omega
      subst e2
      have := lt_tr r t u (by simpa using p2) (by simpa using q2)
      simp [this]
    · simp [e]
theorem rising_pw : ∀ (l : List Str) (p : Str), PyProof.Rows.risingS p l = true → (p :: l).Pairwise leS
  | [], p, _ => List.pairwise_singleton _ _
  | x :: l, p, h => by
    have h : (!PySem.Spec.ltCps x.cps.toList p.cps.toList && PyProof.Rows.risingS x l) = true := h
    obtain ⟨h1, h2⟩ := Bool.and_eq_true_iff.mp h
    have h1 : PySem.Spec.ltCps x.cps.toList p.cps.toList = false := by simpa using h1
    have ih := rising_pw l x h2
    refine List.pairwise_cons.mpr ⟨fun y hy => ?_, ih⟩
    rcases List.mem_cons.mp hy with z | z
    · subst z; exact h1
    · exact lt_tr _ _ _ h1 ((List.pairwise_cons.mp ih).1 y z)
theorem sorted_pw {l : List Str} (h : PyProof.Rows.sortedS l = true) : l.Pairwise leS := by
  cases l with
  | nil => exact List.Pairwise.nil
  | cons x l => exact rising_pw l x h
theorem str_ext {x y : Str} (h : x.cps.toList = y.cps.toList) : x = y := by
  obtain ⟨⟨a⟩⟩ := x
  obtain ⟨⟨b⟩⟩ := y
  have h : a = b := h
  rw [h]
theorem strs_eq {a b : List Str} (h : a.Perm b) (h1 : PyProof.Rows.sortedS a = true) (h2 : PyProof.Rows.sortedS b = true) : a = b :=
  List.Perm.eq_of_pairwise (fun x y _ _ h h' => str_ext (lt_irr _ _ h' h)) (sorted_pw h1) (sorted_pw h2) h
section
variable {Γ : Gm} {Ω : Om} {K : PySem.W.Frag} {te : TE} {ta tb : TA}
abbrev rSortedDS : List V → Hp → VK → Prop := fun xs H Q => ∃ (a : Addr) (kvs : List (Key × V)) (ks : List Str), xs = [.ref a] ∧ Rd H a (.dK kvs) ∧ kvs.map (·.1) = ks.map Sum.inr ∧ ks.length < 64 ∧ ∀ ys p, ys.Perm ks → PyProof.Rows.sortedS ys = true → H p = none → Q (.ref p) (upd H p (.lst (ys.map V.str)))
theorem AllS.ks {F : Hp} : ∀ {l : List (Str × As)} {kvs : List (Key × V)}, AllS F l kvs → kvs.map (·.1) = (l.map (·.1)).map Sum.inr
  | [], [], _ => rfl
  | (i, R) :: l, (q, v) :: kvs, ⟨h1, h2, h3⟩ => by
    subst h1
    rw [List.map_cons, List.map_cons, List.map_cons, AllS.ks h3]
  | [], _ :: _, h => h.elim
  | _ :: _, [], h => h.elim
/-- sorted(l) and sorted(d) are alike, where l and the keys of d are some order of one another: as values -/
def Srt (K : PySem.W.Frag) (xs : List Str) : As := Xs (fun ys : List Str => ys.Perm xs ∧ PyProof.Rows.sortedS ys = true) (fun ys => Ls K (ys.map fun y => S y))
theorem ev_sortedS {xs : List Str} (ha : Lk K Γ Ω te (xs.map fun x => S x)) (hl : xs.length < 64) : Ev Γ Ω (tCB (rSortedS K) (tCons te tNil)) (Srt K xs) := fun Z F H σ c Q q =>
  ha Z F H σ c _ fun a F1 H1 c1 s1 hs => by
    obtain ⟨ys, h2, hx⟩ := hs F1 H1 c1 (Same.refl _)
    have e := all_strV hx
    subst e
    refine ⟨a, xs, rfl, h2, hl, fun ys p hp hw hn => ?_⟩
    obtain ⟨e, s⟩ := Ext.new (o := .lst (ys.map V.str)) c1.sub hn
    exact q _ _ _ (c1.step e s) (s1.trans e) ⟨ys, ⟨hp, hw⟩, p, _, rfl, SqL.of upd_same, all_strs⟩
theorem ev_sortedDS {l : List (Str × As)} (ha : DkS Γ Ω te l) (hl : l.length < 64) : Ev Γ Ω (tCB rSortedDS (tCons te tNil)) (Srt K (l.map (·.1))) := fun Z F H σ c Q q =>
  ha Z F H σ c _ fun a F1 H1 c1 s1 hd => by
    obtain ⟨kvs, h1, h2⟩ := hd F1 H1 c1 (Same.refl _)
    refine ⟨a, kvs, l.map (·.1), rfl, h1, h2.ks, by rw [List.length_map]; exact hl, fun ys p hp hw hn => ?_⟩
    obtain ⟨e, s⟩ := Ext.new (o := .lst (ys.map V.str)) c1.sub hn
    exact q _ _ _ (c1.step e s) (s1.trans e) ⟨ys, ⟨hp, hw⟩, p, _, rfl, SqL.of upd_same, all_strs⟩
/-- a == b, a != b of such -/
theorem ev_srt {t1 t2 : TE} {xs zs : List Str} (neg : Bool) (h1 : Ev Γ Ω t1 (Srt K xs)) (h2 : Ev Γ Ω t2 (Srt K zs)) (hp : xs.Perm zs) (hok : ∀ x ∈ xs, PyData.strOk x = true) : Ev Γ Ω (tOp (if neg then rNeD K else rEqD K) t1 t2) (B (!neg)) := fun Z F H σ c Q q =>
  h1 Z F H σ c _ fun v F1 H1 c1 s1 rv => h2 Z F1 H1 σ c1 _ fun w F2 H2 c2 s2 rw' => by
    obtain ⟨ys, ⟨p1, o1⟩, rv⟩ := rv
    obtain ⟨us, ⟨p2, o2⟩, ru⟩ := rw'
    have e : ys = us := strs_eq (p1.trans (hp.trans p2.symm)) o1 o2
    subst e
    have d1 := (isd_strs (K := K) ys).dp F2 H2 v c2.sub ((Ls K (ys.map fun y => S y)).mono s2.fe rv)
    have d2 := (isd_strs (K := K) ys).dp F2 H2 w c2.sub ru
    have g := gd_strs (xs := ys) fun x hx => hok x (p1.subset hx)
    have ee : PyData.eqv (.list (ys.map PyData.str)) (.list (ys.map PyData.str)) = true := by rw [eqv_strs]; simp
    cases neg with
    | true => exact ⟨_, _, d1, d2, g.shaped (by decide), g.shaped (by decide), by rw [ee]; exact q _ F2 H2 c2 (s1.trans s2) rfl⟩
    | false => exact ⟨_, _, d1, d2, g.shaped (by decide), g.shaped (by decide), by rw [ee]; exact q _ F2 H2 c2 (s1.trans s2) rfl⟩
end
end Y

namespace Y
open PySem L2 PySem.Spec
open PyProof.Rows (envOfC)
/-! ## defs called while an exception is handled -/
structure DnH (P : Program) (w : World) (K : PySem.W.Frag) (mg : Str → Option Value) (base : Heap) (k : Nat) (x : Str) (ps : List Str) (sp : Sp) : Prop where
  ex : ∃ f fd, mg x = some (.ref f) ∧ PySem.W.keepIn K (.ref f) = true ∧ Binds K fd ps [] ∧ L2H.FnH P w K mg base CX0 k f fd ps sp
section
variable {P : Program} {w : World} {K : PySem.W.Frag} {mg : Str → Option Value} {base : Heap}
theorem Tx.okH {x : Str} {st : Stmt} {N ps : List Str} {k : Nat} {sp : Sp} (T : Tx K mg x st ps) (S : FnScope N ps (defScope st)) (len : ∀ vs H Q E, sp vs H Q E → vs.length = ps.length)
    (hbody : ∀ (f : Addr) (cdv : Value) (A : Around) (outer : List Env) (s : Shared) (H : Hp) (vs : List V) (Q : VK) (E : XK) (p : Addr × Obj), L2H.HotC (L2H.cxH CX0 P w K mg base N x (defScope st) f cdv A outer s H E p) → L2H.RoomH k (A.deeper (envOfC x (defScope st) s.heap.objs.size f cdv)) → sp vs H Q E →
      ∃ t, PSs (L2H.cxH CX0 P w K mg base N x (defScope st) f cdv A outer s H E p) (defBody st) t ∧ t { nx := fun _ H' => Q .non H', rt := Q } (L2.start N vs) H) : DnH P w K mg base (k + 1) x ps sp := by
  obtain ⟨f, fd, F, m, b⟩ := T.ex
  have F' := F
  obtain ⟨oc, od, kV, doc, pm, an, cdv, ct, osl, e, lk, hcd⟩ := F.ex
  subst e
  exact ⟨f, _, m, F'.kp, b, L2H.fn_ofH lk hcd S len fun A outer s H vs Q E p hot hr hsp => hbody f cdv A outer s H vs Q E p ⟨p, ⟨hot.1, hot.2⟩, List.mem_singleton.mpr rfl⟩ hr hsp⟩
end
theorem roomH_mark {k : Nat} {A : Around} (r : Room k A) (h : Option Value) : L2H.RoomH k (A.mark h) := ⟨r.dp, r.un⟩
theorem _root_.L2H.RoomH.units {k : Nat} {A : Around} (r : L2H.RoomH k A) : A.units + 64 < cLine := by have := r.un; omega
section
variable {X : Cx} {k : Nat} {ps : List Str} {sp : Sp} {x : Str} {p pos : Pos} {e : Expr} {es : List Expr} {t : TA}
theorem hotc_suite {a : Addr} {oe : Obj} {cls : Value} {d : Option Addr} {pn : List (Addr × Obj)} (hz : L2N.Zn cls d oe) (hf : ∃ vs, oe.data = .fields vs) : L2H.HotC (X.suite a ((a, oe) :: pn)) := by
  obtain ⟨vs, e⟩ := hf
  exact ⟨(a, oe), ⟨rfl, vs, e, hz.2.2 vs e⟩, List.mem_cons_self⟩
theorem pe_dH (hc : L2H.HotC X) (D : DnH X.prog X.w X.K X.mg X.base k x ps sp) (hr : L2H.RoomH k X.A) (hg : Gl X x) (ha : PA X (e :: es) t) (hdb : (x == ("__debug__" : Str)) = false := by decide)
    (he : starEach (e :: es) X.env = (false, eval e X.env) :: starEach es X.env := by rfl) (hpl : (backTo pos (starEach es X.env)).any (·.1) = false := by rfl) :
    PE X (.Call (.Name x p) (e :: es) [] pos) (tCall sp [] E0 t) := by
  obtain ⟨f, fd, m, kp, b, G⟩ := D.ex
  have z := L2H.pe_callH (q := p) (E := fun _ => E0) G hr hc hg m kp b (fun σ pins H s e s' I h => False.elim h) ha hdb he hpl
  have e1 : tCall sp [] E0 t = tCallS sp (fun _ => E0) t := by
    funext σ H Q
    show (t σ H fun vs H1 => sp (vs ++ []) H1 Q E0) = (t σ H fun vs H1 => sp vs H1 Q E0)
    simp only [List.append_nil]
  rw [e1]; exact z
end
/-! ## dicts compared -/
section
variable {Γ : Gm} {Ω : Om} {ta tb : TE} {p1 p2 : Addr} {j1 j2 : Nat}
/-- d != {}, d empty -/
theorem ev_neD0 (ha : Ev Γ Ω ta (Dc [])) : Ev Γ Ω (tOp rNeDA ta tDNewK) (B false) := fun Z F H σ c Q q =>
  ha Z F H σ c _ fun v F1 H1 c1 s1 rv => by
    obtain ⟨a, kvs, e, h1, h2⟩ := rv
    subst e
    have e0 : kvs = [] := by
      cases kvs with
      | nil => rfl
      | cons x l => exact h2.elim
    subst e0
    intro p hp
    have hne : a ≠ p := fun z => by
      have := c1.sub _ _ h1
      rw [z, hp] at this
      cases this
    exact ⟨a, p, [], [], rfl, rfl, by rw [upd_ne hne]; exact c1.sub _ _ h1, upd_same, rfl, fun x hx => absurd hx List.not_mem_nil, q _ F1 _ ((c1.grow (A := oD []) hp ⟨[], rfl, trivial⟩).tail) (s1.trans (Ext.newH hp)) rfl⟩
theorem allS_int {F : Hp} : ∀ {l : List (Str × Int)} {kvs : List (Key × V)}, AllS F (l.map fun x => (x.1, I x.2)) kvs → kvs = l.map fun x => (Sum.inr x.1, V.int x.2)
  | [], [], _ => rfl
  | x :: l, (q, v) :: kvs, ⟨h1, h2, h3⟩ => by
    have h2 : v = V.int x.2 := h2
    rw [h1, h2, allS_int h3]; rfl
  | [], _ :: _, h => h.elim
  | _ :: _, [], h => h.elim
theorem valV_int {k : Str} {v : Int} : ∀ {l : List (Str × Int)}, getS k l = some v → valV (l.map fun x => ((Sum.inr x.1 : Key), V.int x.2)) (.inr k) = some (V.int v)
  | [], h => by cases h
  | (i, x) :: l, h => by
    have h : (if i = k then some x else getS k l) = some v := h
    rw [List.map_cons]
    by_cases e : i = k
    · rw [if_pos e] at h
      cases h
      exact valV_pos (congrArg Sum.inr e)
    · rw [if_neg e] at h
      rw [valV_neg (fun z => e (Sum.inr.inj z))]
      exact valV_int h
/-- d == e, of texts and whole numbers, alike -/
theorem ev_eqSS {l1 l2 : List (Str × Int)} (h1 : Ev Γ Ω ta (Rf p1)) (m1 : Ω[j1]? = some (p1, oS (l1.map fun x => (x.1, I x.2)))) (h2 : Ev Γ Ω tb (Rf p2)) (m2 : Ω[j2]? = some (p2, oS (l2.map fun x => (x.1, I x.2)))) (hl : l1.length = l2.length) (hh : ∀ x ∈ l1, getS x.1 l2 = some x.2) : Ev Γ Ω (tOp rEqDA ta tb) (B true) := fun Z F H σ c Q q =>
  h1 Z F H σ c _ fun v F1 H1 c1 s1 rv => h2 Z F1 H1 σ c1 _ fun w F2 H2 c2 s2 rw' => by
    cases rv
    cases rw'
    obtain ⟨_, o, e1, k1, eo1, a1⟩ := c2.own _ (List.mem_of_getElem? m1)
    obtain ⟨_, o', e2, k2, eo2, a2⟩ := c2.own _ (List.mem_of_getElem? m2)
    subst eo1 eo2
    have z1 := allS_int a1
    have z2 := allS_int a2
    subst z1 z2
    refine ⟨p1, p2, _, _, rfl, rfl, e1, e2, by rw [List.length_map, List.length_map, hl], fun y hy => ?_, q _ F2 H2 c2 (s1.trans s2) rfl⟩
    obtain ⟨x, hx, ex⟩ := List.mem_map.mp hy
    subst ex
    exact ⟨valV_int (hh x hx), rfl⟩
end
section
variable {Γ : Gm} {Ω : Om} {ta tb te : TE}
theorem ev_sub {R R' : As} (h : Ev Γ Ω te R) (k : ∀ F v, R.p F v → R'.p F v) : Ev Γ Ω te R' := fun Z F H σ c Q q => h Z F H σ c Q fun v F1 H1 c1 s1 r => q v F1 H1 c1 s1 (k F1 v r)
/-- f(e), e some member of a family -/
theorem ev_callXs {α : Type} {P : α → Prop} {Rb : α → As} {args : α → List As} {pre : α → Prop} {res : α → As} {E : XK} {R : As} (h : Ev Γ Ω ta (Xs P Rb)) (ha : ∀ a, args a = [Rb a]) (hp : ∀ a, P a → pre a) (hr : ∀ a, res a = R) : Ev Γ Ω (tCall (CtF args pre res) [] E (tCons ta tNil)) R := fun Z F H σ c Q q =>
  h Z F H σ c _ fun v F1 H1 c1 s1 ⟨a, pa, rv⟩ => ⟨a, F1, c1.sub, by rw [ha]; exact ⟨rv, trivial⟩, hp a pa, fun v F2 H2 e2 s2 r => q v F2 H2 (c1.step e2 s2) (s1.trans e2) (by rw [← hr a]; exact r)⟩
end
/-! ## l + m -/
/-- an expression whose value is a new list, known as such -/
def Lw (Γ : Gm) (Ω : Om) (te : TE) (Rs : List As) : Prop := ∀ (Z : Bs) (F H : Hp) (σ : L2.St), Ctx Z F H σ Γ Ω → ∀ Q : VK, (∀ a F' H', Ctx Z F' H' σ Γ Ω → Ext [] F H F' H' → (∃ xs, F' a = some (.lst xs) ∧ All F' Rs xs) → Q (.ref a) H') → te σ H Q
section
variable {Γ : Gm} {Ω : Om} {K : PySem.W.Frag} {ta tb te : TE} {Rs Ss : List As}
theorem lw_is (h : Lw Γ Ω te Rs) (e : Rs = Ss) : Lw Γ Ω te Ss := e ▸ h
theorem new_lw {Z : Bs} {F H : Hp} {σ : L2.St} {p : Addr} {xs : List V} (c : Ctx Z F H σ Γ Ω) (hl : All F Rs xs) (hp : H p = none) : ∃ F' H', H' = upd H p (.lst xs) ∧ Ctx Z F' H' σ Γ Ω ∧ Ext [] F H F' H' ∧ ∃ ys, F' p = some (.lst ys) ∧ All F' Rs ys := by
  obtain ⟨e, s⟩ := Ext.new (o := .lst xs) c.sub hp
  exact ⟨_, _, rfl, c.step e s, e, xs, upd_same, hl.mono e.fe⟩
theorem lw_lst {ta : TA} (h : EvA Γ Ω ta Rs) (hl : Rs.length ≤ 1000 := by decide) : Lw Γ Ω (tLst ta) Rs := fun Z F H σ c Q q =>
  h Z F H σ c _ fun vs F1 H1 c1 s1 rs => ⟨by rw [rs.length]; exact Nat.le_of_lt (small1000 hl), fun p hp => by
    obtain ⟨F2, H2, e, c2, s2, r⟩ := new_lw c1 rs hp
    rw [← e]
    exact q p F2 H2 c2 (s1.trans s2) r⟩
theorem lw_sl {tl th : TO} {lo hi : Option Int} (ha : Lk K Γ Ω ta Rs) (h1 : EvO Γ Ω tl lo) (h2 : EvO Γ Ω th hi) : Lw Γ Ω (tSl (rSlL K) ta tl th) (cutA Rs lo hi) := fun Z F H σ c Q q =>
  ha Z F H σ c _ fun a F1 H1 c1 s1 hs => h1 Z F1 H1 σ c1 _ fun F2 H2 c2 s2 => h2 Z F2 H2 σ c2 _ fun F3 H3 c3 s3 => by
    obtain ⟨xs, hs1, hl⟩ := hs F3 H3 c3 (s2.trans s3).fe
    refine ⟨a, xs, rfl, hs1, fun p hp => ?_⟩
    have hz : All F3 (cutA Rs lo hi) (cutV xs lo hi) := by
      unfold cutA cutV
      rw [hl.length]
      exact (hl.drop _).take _
    obtain ⟨F4, H4, e, c4, s4, r⟩ := new_lw c3 hz hp
    rw [← e]
    exact q p F4 H4 c4 (s1.trans (s2.trans (s3.trans s4))) r
theorem lw_cat (ha : Lw Γ Ω ta Rs) (hb : Lw Γ Ω tb Ss) (hn : Rs.length + Ss.length ≤ 1000000) : Lw Γ Ω (tOp rCat ta tb) (Rs ++ Ss) := fun Z F H σ c Q q =>
  ha Z F H σ c _ fun a F1 H1 c1 s1 ⟨xs, e1, l1⟩ => hb Z F1 H1 σ c1 _ fun b F2 H2 c2 s2 ⟨ys, e2, l2⟩ => by
    have l1' := l1.mono s2.fe
    refine ⟨a, b, xs, ys, rfl, rfl, c2.sub _ _ (s2.fe _ _ e1), c2.sub _ _ e2, by rw [← l1.length, ← l2.length] at *; exact Nat.le_trans hn (by decide), fun p hp => ?_⟩
    obtain ⟨F3, H3, e, c3, s3, r⟩ := new_lw c2 (l1'.app l2) hp
    rw [← e]
    exact q p F3 H3 c3 (s1.trans (s2.trans s3)) r
theorem ev_lw (h : Lw Γ Ω te Rs) : Ev Γ Ω te (Ls K Rs) := fun Z F H σ c Q q => h Z F H σ c Q fun a F1 H1 c1 s1 ⟨xs, e, l⟩ => q _ F1 H1 c1 s1 ⟨a, xs, rfl, SqL.of e, l⟩
theorem ev_cat (ha : Lw Γ Ω ta Rs) (hb : Lw Γ Ω tb Ss) (hn : Rs.length + Ss.length ≤ 1000000) : Ev Γ Ω (tOp rCat ta tb) (Ls K (Rs ++ Ss)) := ev_lw (lw_cat ha hb hn)
end
/-! ## defs that are handed the exception that is handled -/
structure FnHa (P : Program) (w : World) (K : PySem.W.Frag) (mg : Str → Option Value) (base : Heap) (k : Nat) (f : Addr) (fd : FuncData) (ps : List Str) (sp : Addr → Value → Option Addr → Sp) : Prop where
  len : ∀ a cls d vs H Q E, sp a cls d vs H Q E → vs.length = ps.length
  run : ∀ (A : Around) (outer : List Env) (s : Shared) (H : Hp) (args : Args) (us : List Value) (vs : List V) (Q : VK) (E : XK) (p : Addr × Obj) (cls : Value) (d : Option Addr), L2H.RoomH k A → L2H.Hot1 A p → L2N.Zn cls d p.2 → L2H.PinOk outer H s p → Env0 P w K mg base A outer s H → BindsTo s fd args (ps.zip us) → Vals vs us →
    sp p.1 cls d vs H Q E → codeAny (model P w) A (.call (.ref f) args) (CR CX0 outer P w H s Q E) s
structure DnA (P : Program) (w : World) (K : PySem.W.Frag) (mg : Str → Option Value) (base : Heap) (k : Nat) (x : Str) (ps : List Str) (sp : Addr → Value → Option Addr → Sp) : Prop where
  ex : ∃ f fd, mg x = some (.ref f) ∧ PySem.W.keepIn K (.ref f) = true ∧ Binds K fd ps [] ∧ FnHa P w K mg base k f fd ps sp
section
variable {P : Program} {w : World} {K : PySem.W.Frag} {mg : Str → Option Value} {base : Heap}
theorem Tx.okA {x : Str} {st : Stmt} {N ps : List Str} {k : Nat} {sp : Addr → Value → Option Addr → Sp} (T : Tx K mg x st ps) (S : FnScope N ps (defScope st)) (len : ∀ a cls d vs H Q E, sp a cls d vs H Q E → vs.length = ps.length)
    (hbody : ∀ (f : Addr) (cdv : Value) (A : Around) (outer : List Env) (s : Shared) (H : Hp) (vs : List V) (Q : VK) (E : XK) (p : Addr × Obj) (cls : Value) (d : Option Addr), L2H.HotC (L2H.cxH CX0 P w K mg base N x (defScope st) f cdv A outer s H E p) → L2N.Zn cls d p.2 → (∃ vs, p.2.data = .fields vs) →
      p ∈ (L2H.cxH CX0 P w K mg base N x (defScope st) f cdv A outer s H E p).pn → L2H.RoomH k (A.deeper (envOfC x (defScope st) s.heap.objs.size f cdv)) → sp p.1 cls d vs H Q E →
      ∃ t, PSs (L2H.cxH CX0 P w K mg base N x (defScope st) f cdv A outer s H E p) (defBody st) t ∧ t { nx := fun _ H' => Q .non H', rt := Q } (L2.start N vs) H) : DnA P w K mg base (k + 1) x ps sp := by
  obtain ⟨f, fd, F, m, b⟩ := T.ex
  have F' := F
  obtain ⟨oc, od, kV, doc, pm, an, cdv, ct, osl, e, lk, hcd⟩ := F.ex
  subst e
  refine ⟨f, _, m, F'.kp, b, ⟨len, fun A outer s H args us vs Q E p cls d hr hot hz hpin e0 hb r hsp => ?_⟩⟩
  have hl := len _ _ _ _ _ _ _ hsp
  have KX : K.In s.heap := e0.mod.kin.keeps fun b o e => (e0.bs b o e).1
  have lim : s.heap.NoLimit := e0.mod.nolimit.keeps fun b o e => (e0.bs b o e).1
  have hkind : ∀ y ∈ ps.zip us, (defScope st).names.lookup y.1 = some .local ∨ ((defScope st).names.lookup y.1 = some .cell ∧ ((cellsFrom (s.heap.objs.size + 1) (defScope st).names []).lookup y.1).isSome = true) := fun ⟨n, v⟩ hy => by
    rcases S.par n (List.of_mem_zip hy).1 with q | q
    · exact .inl q
    · exact .inr ⟨q, PySem.W.cellsFrom_some _ _ _ (.inl q)⟩
  refine codeAny_call_function hr.depth (KX _ _ lk) rfl S.co S.gen rfl (PySem.W.codeRec_of KX hcd) (hb _ _ _ _ ?_)
  refine wpAny_newFunctionEnv_cells S.kind hkind fun env he s1 y => ?_
  subst he
  refine ⟨lim.keeps y.toInCall.keep, codeAny_func ?_⟩
  obtain ⟨t, ht, hq⟩ := hbody f cdv A outer s H vs Q E p cls d ⟨p, ⟨hot.1, hot.2⟩, List.mem_singleton.mpr rfl⟩ hz (by obtain ⟨_, vs1, e1, _⟩ := hot; exact ⟨vs1, e1⟩) (List.mem_singleton.mpr rfl) (hr.deeper _) hsp
  have I : L2.Inv (L2H.cxH CX0 P w K mg base N x (defScope st) f cdv A outer s H E p) [] (L2.start N vs) H s1 := L2H.inv_startH S hpin e0 hl r y
  refine wpAny_mono (ht.run [] s1 (L2.start N vs) H _ I hq) (fun fl s' hs => ?_) fun e s' hs => hs
  have fin : ∀ {σ' : L2.St} {H' : Hp} {v : V} {u : Value}, L2.Inv (L2H.cxH CX0 P w K mg base N x (defScope st) f cdv A outer s H E p) [] σ' H' s' → RelV v u → Q v H' → CE outer P w H s Q u s' :=
    fun {σ' H' v u} J rv q => ⟨v, H', J.os, J.bare, J.base, J.hok, rv, q⟩
  cases fl with
  | ret u =>
    obtain ⟨v, σ', H', J, rv, q⟩ := hs
    exact fin J rv q
  | next =>
    obtain ⟨σ', H', J, q⟩ := hs
    exact fin (v := V.non) (u := Value.none) J rfl q
  | brk =>
    obtain ⟨_, _, _, q⟩ := hs
    exact False.elim q
  | cont =>
    obtain ⟨_, _, _, q⟩ := hs
    exact False.elim q
end
section
variable {X : Cx} {k : Nat} {ps : List Str} {sp : Addr → Value → Option Addr → Sp} {x : Str} {q pos : Pos} {e : Expr} {es : List Expr} {t : TA} {a : Addr} {oe : Obj} {cls : Value} {d : Option Addr}
theorem pe_dA (hh : L2H.Hot1 X.A (a, oe)) (hp : (a, oe) ∈ X.pn) (hz : L2N.Zn cls d oe) (D : DnA X.prog X.w X.K X.mg X.base k x ps sp) (hr : L2H.RoomH k X.A) (hg : Gl X x) (ha : PA X (e :: es) t) (hdb : (x == ("__debug__" : Str)) = false := by decide)
    (he : starEach (e :: es) X.env = (false, eval e X.env) :: starEach es X.env := by rfl) (hpl : (backTo pos (starEach es X.env)).any (·.1) = false := by rfl) :
    PE X (.Call (.Name x q) (e :: es) [] pos) (tCall (sp a cls d) [] E0 t) := by
  obtain ⟨f, fd, m, kp, b, F⟩ := D.ex
  refine ⟨fun pins s σ H Q I h => ?_⟩
  refine wpAny_Call_Name_kw (ld_glob I hg m ?_ hdb)
  refine PySem.W.callWith_K (h₀ := X.base) I.ok.mod.kin kp (thn (ha.run pos pins s σ H _ I h) fun us s1 ⟨vs, H1, I1, r, h1⟩ => ⟨I1.kIn, ?_⟩) he hpl
  have h1 : sp a cls d (vs ++ []) H1 Q E0 := h1
  rw [List.append_nil] at h1
  have hl : us.length = ps.length := by rw [← PySem.Paired.length r]; exact F.len _ _ _ _ _ _ _ h1
  have b1 := b s1 us I1.kIn (by rw [List.append_nil]; exact hl)
  rw [List.append_nil] at b1
  have P1 := I1.pin (a, oe) (List.mem_append_left _ hp)
  have hpin : L2H.PinOk X.stack H1 s1 (a, oe) := ⟨P1.1, P1.2.1, fun hm => (List.mem_cons.mp (I1.stkSub a hm)).elim P1.2.2.1 P1.2.2.2.1, P1.2.2.2.2⟩
  refine wpAny_call (codeAny_mono (F.run X.A X.stack s1 H1 ⟨us, []⟩ us vs Q E0 (a, oe) cls d hr hh hz hpin I1.env0 b1 r h1) fun r s' hq => ?_)
  cases r with
  | error e => exact False.elim hq
  | ok fl =>
    cases fl with
    | ret u => exact I1.after hq
    | next => exact False.elim hq
    | brk => exact False.elim hq
    | cont => exact False.elim hq
theorem hot1_suite {pn : List (Addr × Obj)} (hz : L2N.Zn cls d oe) (hf : ∃ vs, oe.data = .fields vs) : L2H.Hot1 (X.suite a ((a, oe) :: pn)).A (a, oe) := by
  obtain ⟨vs, e⟩ := hf
  exact ⟨rfl, vs, e, hz.2.2 vs e⟩
theorem kn_instP {D : Addr} {pins : List (Addr × Obj)} {s : Shared} {σ : L2.St} {H : Hp} (hp : (a, oe) ∈ X.pn) (hz : Zc cls d oe) (hf : ∃ vs, oe.data = .fields vs) (I : L2.Inv X pins σ H s) (h : Kn D cls d H) : ∃ od, PySem.W.InstAt s.heap a oe D od := by
  obtain ⟨ha, _⟩ := I.pin (a, oe) (List.mem_append_left _ hp)
  obtain ⟨vs, hd⟩ := hf
  obtain ⟨ec, hh⟩ := h
  subst ec
  rcases hh with e | ⟨dd, fs, e, hx⟩
  · subst e
    exact ⟨none, ha, hz.1, by unfold PySem.W.notCls; rw [hd] <;> rfl, by rw [hz.2]; trivial⟩
  · subst e
    have hx : ObjOk X.prog X.w H s.heap dd (.xd fs) := I.hok dd _ hx
    obtain ⟨mA, hns, hr⟩ := hx
    obtain ⟨od, ho, hl⟩ := lookIn_ns hns
    exact ⟨some od, ha, hz.1, by unfold PySem.W.notCls; rw [hd] <;> rfl, by rw [hz.2]; exact ho⟩
theorem call_isE1P {D : Addr} (C : ExcC X.K D) (hp : (a, oe) ∈ X.pn) (hz : Zc cls d oe) (hf : ∃ vs, oe.data = .fields vs) : CallR X (.builtin "isinstance") (rIsE1 X.K D a cls d) := by
  intro pins s σ H xs us Q I r h
  obtain ⟨c, cv, b, rfl, kn, hcv, e, q⟩ := h
  obtain ⟨u1, u2, rfl, r1, r2⟩ := vals2 r
  cases (show u1 = Value.ref a from r1)
  have ec := hcv _ r2
  subst ec
  obtain ⟨od, J⟩ := kn_instP hp hz hf I kn
  exact PySem.W.kia_one (PySem.W.kitx_excD C.hg C.hk C.hs C.hd C.ha C.hn C.ht C.hm) I.kIn J e (fun z => nomatch z) fun tk => ⟨.bl b, H, I.kept (t' := tk) fun _ _ z => z, rfl, q⟩
end
/-- what a def promises that is handed the error, of class D, without fields -/
def CtV {α : Type} (args : α → List As) (pre : α → Prop) (res : α → As) (D : Addr) : Addr → Value → Option Addr → Sp := fun a cls d vs H Q _ =>
  cls = .ref D ∧ d = none ∧ ∃ x F, Same F H ∧ All F (Rf a :: args x) vs ∧ pre x ∧ ∀ v F' H', Ext [] F H F' H' → Same F' H' → (res x).p F' v → Q v H'
theorem CtV.len {α : Type} {args : α → List As} {pre : α → Prop} {res : α → As} {D : Addr} {n : Nat} (h : ∀ a, (args a).length = n) : ∀ a cls d vs H Q E, CtV args pre res D a cls d vs H Q E → vs.length = n + 1 := by
  rintro a cls d vs H Q E ⟨_, _, x, F, _, ha, _⟩
  rw [ha.length, List.length_cons, h]
theorem ev_callV {Γ : Gm} {Ω : Om} {α : Type} {args : α → List As} {pre : α → Prop} {res : α → As} {D a : Addr} {E : XK} {ta : TA} (x : α) (h : EvA Γ Ω ta (Rf a :: args x)) (hp : pre x) : Ev Γ Ω (tCall (CtV args pre res D a (.ref D) none) [] E ta) (res x) := fun Z F H σ c Q q =>
  h Z F H σ c _ fun vs F1 H1 c1 s1 rs => ⟨rfl, rfl, x, F1, c1.sub, by rw [List.append_nil]; exact rs, hp, fun v F2 H2 e2 s2 r => q v F2 H2 (c1.step e2 s2) (s1.trans e2) r⟩
end Y

namespace Y
open PySem L2 PySem.Spec
open PyProof.Rows (envOfC)
/-! ## several except clauses, with names and without -/
abbrev Cls3 := Value × Option Nat × (Addr → Value → Option Addr → TS)
def outN (i : Nat) (D : Ends) : Ends := { nx := fun σ' H' => D.nx (σ'.set i none) H', rt := D.rt, bk := fun σ' H' => D.bk (σ'.set i none) H', ct := fun σ' H' => D.ct (σ'.set i none) H' }
def wM (K : PySem.W.Frag) (Wout : WX) (D : Ends) : List Cls3 → WX
  | [] => Wout
  | (c, none, ts) :: r => fun cls d σ H => ∃ b, PySem.W.exmOne K cls c = some b ∧ (b = true → ∀ a, H a = none → ts a cls d D σ H) ∧ (b = false → wM K Wout D r cls d σ H)
  | (c, some i, ts) :: r => fun cls d σ H => ∃ b, PySem.W.exmOne K cls c = some b ∧ (b = true → ∀ a, H a = none → ts a cls d (outN i D) (σ.set i (some (.ref a))) H) ∧ (b = false → wM K Wout D r cls d σ H)
inductive HdsM (X : Cx) : List ExceptHandler → List Cls3 → Prop
  | nil : HdsM X [] []
  | cons {x : Str} {c : Value} {ts : Addr → Value → Option Addr → TS} {b₀ : Stmt} {suite : List Stmt} {np pos' : Pos} {hds : List ExceptHandler} {l : List Cls3} (hc : Names X x c)
      (hsu : ∀ (a : Addr) (oe : Obj) (cls : Value) (d : Option Addr) (pn : List (Addr × Obj)), L2N.Zn cls d oe → (∃ vs, oe.data = .fields vs) → PSs (X.suite a ((a, oe) :: pn)) (b₀ :: suite) (ts a cls d)) (r : HdsM X hds l) :
      HdsM X (.ExceptHandler (some (.Name x np)) none (b₀ :: suite) pos' :: hds) ((c, none, ts) :: l)
  | as {x n : Str} {c : Value} {i : Nat} {ts : Addr → Value → Option Addr → TS} {b₀ : Stmt} {suite : List Stmt} {np pos' : Pos} {hds : List ExceptHandler} {l : List Cls3} (hi : X.N[i]? = some n) (hln : X.env.kindOf n = some .local) (hc : Names X x c)
      (hsu : ∀ (a : Addr) (oe : Obj) (cls : Value) (d : Option Addr) (pn : List (Addr × Obj)), L2N.Zn cls d oe → (∃ vs, oe.data = .fields vs) → PSs (X.suite a ((a, oe) :: pn)) (b₀ :: suite) (ts a cls d)) (r : HdsM X hds l) :
      HdsM X (.ExceptHandler (some (.Name x np)) (some n) (b₀ :: suite) pos' :: hds) ((c, some i, ts) :: l)
section
variable {X : Cx} {body : List Stmt} {h₀ : ExceptHandler} {hds : List ExceptHandler} {l : List Cls3} {pos : Pos} {tb : WX → TS} {Wout : WX}
theorem ps_tryM (hs : X.stack = X.env :: X.outer) (hf : X.env.frame = some X.env.locals) (hN : X.N.Nodup) (tk : Takes X Wout)
    (hb : ∀ (W : WX) (pn : List (Addr × Obj)) (xe : Value → Shared → Prop), Takes (X.tr pn xe) W → PassesOwn (model X.prog X.w) X.A X.env xe → PSs (X.tr pn xe) body (tb W))
    (hh : HdsM X (h₀ :: hds) l) : PS X (.Try body (h₀ :: hds) [] [] pos) (fun D σ H => tb (wM X.K Wout D l) D σ H) := by
  refine ⟨fun pins s σ H D I h => ?_⟩
  have ok := I.ok
  have hfr : X.A.frames = some (X.env :: X.outer) := by rw [ok.frames, hs]
  refine wpAny_Try_except ?_
  refine wpAny_mono ((hb (wM X.K Wout D l) (X.pn ++ pins) (fun e s₁ => wpAny (model X.prog X.w) X.A (noteFrame e X.env) (fun _ s₂ => wpAny (model X.prog X.w) X.A (setFlight e none) (fun _ s₃ =>
    wpAny (model X.prog X.w) X.A (handleBy e X.env (h₀ :: hds)) (SP X pins D) X.xe s₃) X.xe s₂) X.xe s₁) (fun u s' xx => ?_) PassesOwn.looking).run [] s σ H D (I.toTry _) h) (fun f s1 hsp => ?_) (fun e s1 he => he)
  · obtain ⟨a, Bh, sI, pins', σ', H', cls, d, rfl, J', nb, up, sky, na, os, ag, w⟩ := xx
    have J : L2.Inv X pins σ' H' sI := J'.ofTry ok
    have sky' : Sky Bh (X.env :: X.outer) a (L2N.Zn cls d) X.env.locals s'.heap := by rw [← hs]; exact sky
    show wpAny (model X.prog X.w) X.A (noteFrame (.ref a) X.env) _ _ _
    refine L2N.Sky.land L2N.Zn.steady hfr hf sky' fun h3 fl3 up3 => ?_
    have J3 : L2.Inv X pins σ' H' { s' with heap := h3 } := J.landed nb fl3.1 (up.trans up3) os ag
    obtain ⟨oe3, vs3, he3, hz3, hd3⟩ := fl3.there
    have notFr : ∀ {h : Heap} {o : Obj} {vs : Array Value}, h.FunFrames Bh (X.env :: X.outer) → h.get? a = some o → o.data = .fields vs → a ∉ frs (X.env :: X.outer) := fun {h o vs} ff e dd hm => by
      obtain ⟨_, o', e', hnf⟩ := ff.mem hm
      rw [e] at e'; cases e'
      exact hnf _ dd
    have nfr := notFr fl3.2.2.1 he3 hd3
    have nL : a ≠ X.env.locals := fun z => nfr (List.mem_filterMap.mpr ⟨X.env, List.mem_cons_self, by rw [hf, z]⟩)
    have nF : a ∉ X.fs := fun hm => by
      obtain ⟨e, he, q⟩ := List.mem_filterMap.mp hm
      exact nfr (List.mem_filterMap.mpr ⟨e, List.mem_cons_of_mem _ he, q⟩)
    have S3 := J3.suite he3 hd3 na nL nF
    have test : ∀ {x : Str} {c : Value} {Q : Value → Shared → Prop} {E : Value → Shared → Prop} {np : Pos}, Names X x c → Q c { s' with heap := h3 } → wpAny (model X.prog X.w) (X.A.mark (some (.ref a))) (eval (.Name x np) X.env) Q E { s' with heap := h3 } := fun {x c Q E np} hc q => by
      obtain ⟨hg, hdbg, hm | ⟨hm, hv, hnn⟩⟩ := hc
      · exact ld_glob (X := X.suite a ((a, oe3) :: (X.pn ++ pins))) S3 hg hm q hdbg
      · exact ld_blt (X := X.suite a ((a, oe3) :: (X.pn ++ pins))) S3 hg hm hv q hnn hdbg
    have go : ∀ {hds' : List ExceptHandler} {l' : List Cls3}, HdsM X hds' l' → wM X.K Wout D l' cls d σ' H' →
        wpAny (model X.prog X.w) X.A (handleBy (.ref a) X.env hds') (SP X pins D) X.xe { s' with heap := h3 } := by
      intro hds' l' hk
      induction hk with
      | nil =>
        intro w
        refine wpAny_handleBy_nil ?_
        obtain ⟨k1, k2, k3, oe, vs, T, oT, ts', he, hz, hd, h1, hr⟩ := id fl3
        unfold PySem.passOn
        refine wpAny_bind (wpAny_field he hd h1 ?_)
        rw [if_neg (show ¬ ((Value.ref T == Value.none) = true) from by simp)]
        have fin : wpAny (model X.prog X.w) X.A (setFlight (.ref a) X.env.frame) (fun _ s4 => wpAny (model X.prog X.w) X.A (throw (.ref a) : Sem Flow) (SP X pins D) X.xe s4) X.xe { s' with heap := h3 } := by
          rw [hf]
          refine HandSPX.setFlight_upZ fl3 fun h4 hh4 up4 => wpAny_throw (tk _ _ ?_)
          exact ⟨a, Bh, sI, pins, σ', H', cls, d, rfl, J, nb, (up.trans up3).trans up4, .inr (.inr (by rw [hs]; exact hh4)), na, os, ag, w⟩
        first
          | exact wpAny_bind (wpAny_pure (wpAny_bind fin))
          | exact wpAny_bind fin
      | @cons x c ts b₀ suite np pos' hds2 l2 hc hsu r ih =>
        intro w
        obtain ⟨b, hb1, hyes, hno⟩ := w
        refine wpAny_handleBy_cons (codeAny_handlers_test ?_) (by intro q; cases q)
        have LT : PySem.W.Looks (model X.prog X.w) h3 (typeOf (.ref a)) cls := fun A Q E s k q => wpAny_typeOf_ref (k _ _ he3) (by rw [hz3.1]; exact q)
        have LM := PySem.W.exm_one (M := model X.prog X.w) (J3.kIn) LT hb1
        refine test hc (LM.here ?_)
        cases b with
        | true =>
          refine codeAny_handlers_suite ?_
          refine HandSPX.lands_againZ fl3 fun h4 fl4 up4 => ?_
          have J4 : L2.Inv X pins σ' H' { s' with heap := h4 } := J.landed nb fl4.1 ((up.trans up3).trans up4) os ag
          obtain ⟨oe4, vs4, he4, hz4, hd4⟩ := fl4.there
          have S4 := J4.suite he4 hd4 na nL nF
          refine wpAny_mono ((hsu a oe4 cls d (X.pn ++ pins) hz4 ⟨_, hd4⟩).run [] _ _ H' _ S4 (hyes rfl a na)) (fun f s6 hsp => ?_) (fun _ _ z => False.elim z)
          cases f with
          | next =>
            obtain ⟨σ6, H6, S6, q6⟩ := hsp
            exact ⟨_, _, S6.unsuite ok, q6⟩
          | brk =>
            obtain ⟨σ6, H6, S6, q6⟩ := hsp
            exact ⟨_, _, S6.unsuite ok, q6⟩
          | cont =>
            obtain ⟨σ6, H6, S6, q6⟩ := hsp
            exact ⟨_, _, S6.unsuite ok, q6⟩
          | ret u =>
            obtain ⟨v6, σ6, H6, S6, r6, q6⟩ := hsp
            exact ⟨_, _, _, S6.unsuite ok, r6, q6⟩
        | false =>
          show wpAny _ X.A (handleBy (.ref a) X.env hds2) _ _ _
          exact ih (hno rfl)
      | @as x n c i ts b₀ suite np pos' hds2 l2 hi hln hc hsu r ih =>
        intro w
        obtain ⟨b, hb1, hyes, hno⟩ := w
        have hloc : Loc X.env.scope n := .inl hln
        refine wpAny_handleBy_cons (codeAny_handlers_test ?_) (by intro q; cases q)
        have LT : PySem.W.Looks (model X.prog X.w) h3 (typeOf (.ref a)) cls := fun A Q E s k q => wpAny_typeOf_ref (k _ _ he3) (by rw [hz3.1]; exact q)
        have LM := PySem.W.exm_one (M := model X.prog X.w) (J3.kIn) LT hb1
        refine test hc (LM.here ?_)
        cases b with
        | true =>
          refine codeAny_handlers_suite_as ?_
          refine HandSPX.lands_againZ fl3 fun h4 fl4 up4 => ?_
          have J4 : L2.Inv X pins σ' H' { s' with heap := h4 } := J.landed nb fl4.1 ((up.trans up3).trans up4) os ag
          obtain ⟨oe4, vs4, he4, hz4, hd4⟩ := fl4.there
          have S4 := J4.suite he4 hd4 na nL nF
          refine store_ok (X := X.suite a ((a, oe4) :: (X.pn ++ pins))) (v := .ref a) S4 hN hi hloc rfl (fun s5 S5 => ?_) (.inr hln)
          refine wpAny_mono ((hsu a oe4 cls d (X.pn ++ pins) hz4 ⟨_, hd4⟩).run [] s5 _ H' _ S5 (hyes rfl a na)) (fun f s6 hsp => ?_) (fun _ _ z => False.elim z)
          have end_ : ∀ {σ6 : L2.St} {H6 : Hp} {Q : Shared → Prop}, L2.Inv (X.suite a ((a, oe4) :: (X.pn ++ pins))) [] σ6 H6 s6 → (∀ s7, L2.Inv X pins (σ6.set i none) H6 s7 → Q s7) →
              wpAny (model X.prog X.w) X.A (do bindName X.env n .none; unbindBehindTheSuite X.env n pos') (fun _ s7 => Q s7) X.xe s6 := fun {σ6 H6 Q} S6 hq => gone_ok (S6.unsuite ok) hN hi hln hq
          cases f with
          | next =>
            obtain ⟨σ6, H6, S6, q6⟩ := hsp
            exact end_ S6 fun s7 J7 => ⟨_, _, J7, q6⟩
          | brk =>
            obtain ⟨σ6, H6, S6, q6⟩ := hsp
            exact end_ S6 fun s7 J7 => ⟨_, _, J7, q6⟩
          | cont =>
            obtain ⟨σ6, H6, S6, q6⟩ := hsp
            exact end_ S6 fun s7 J7 => ⟨_, _, J7, q6⟩
          | ret u =>
            obtain ⟨v6, σ6, H6, S6, r6, q6⟩ := hsp
            exact end_ S6 fun s7 J7 => ⟨_, _, _, J7, r6, q6⟩
        | false =>
          show wpAny _ X.A (handleBy (.ref a) X.env hds2) _ _ _
          exact ih (hno rfl)
    exact go hh w
  · cases f with
    | next =>
      obtain ⟨σ', H', J', q⟩ := hsp
      exact wpAny_execs_nil ⟨σ', H', J'.ofTry ok, q⟩
    | brk =>
      obtain ⟨σ', H', J', q⟩ := hsp
      exact ⟨σ', H', J'.ofTry ok, q⟩
    | cont =>
      obtain ⟨σ', H', J', q⟩ := hsp
      exact ⟨σ', H', J'.ofTry ok, q⟩
    | ret u =>
      obtain ⟨v, σ', H', J', r, q⟩ := hsp
      exact ⟨v, σ', H', J'.ofTry ok, r, q⟩
end
/-! ## a promise of two parts: what is answered, or what is raised -/
def spOr (s1 s2 : Sp) : Sp := fun vs H Q E => s1 vs H Q E ∨ s2 vs H Q E
theorem or_l {s1 s2 : Sp} : ∀ vs H Q E, s1 vs H Q E → spOr s1 s2 vs H Q E := fun _ _ _ _ => .inl
theorem or_r {s1 s2 : Sp} : ∀ vs H Q E, s2 vs H Q E → spOr s1 s2 vs H Q E := fun _ _ _ _ => .inr
/-- raises, and changes nothing -/
def CtN {α : Type} (args : α → List As) (Oi : α → Om) (pre : α → Prop) (D : α → Addr) : Sp := fun vs H _ E =>
  ∃ a F, Same F H ∧ All F (args a) vs ∧ Own F H (Oi a) ∧ ((Oi a).map (·.1)).Nodup ∧ pre a ∧ ∀ F' H', Ext [] F H F' H' → Same F' H' → E (.ref (D a)) none H'
theorem CtN.len {α : Type} {args : α → List As} {Oi : α → Om} {pre : α → Prop} {D : α → Addr} {n : Nat} (h : ∀ a, (args a).length = n) : ∀ vs H Q E, CtN args Oi pre D vs H Q E → vs.length = n := by
  rintro vs H Q E ⟨a, F, _, ha, _⟩
  rw [ha.length, h]
theorem spOr_len {s1 s2 : Sp} {n : Nat} (h1 : ∀ vs H Q E, s1 vs H Q E → vs.length = n) (h2 : ∀ vs H Q E, s2 vs H Q E → vs.length = n) : ∀ vs H Q E, spOr s1 s2 vs H Q E → vs.length = n := fun vs H Q E h => h.elim (h1 vs H Q E) (h2 vs H Q E)
section
variable {X : Cx} {C : Addr} {m x cn : Str} {ps : List Str} {sp : Sp} {k : Nat} {p p1 pos apos : Pos} {e o : Expr} {es : List Expr} {t : TA} {ta : TE} {W : WX}
/-- a method where nothing is raised, in the words of one that may raise -/
theorem pe_dmE {pl : Sem Bool} (he : PE X o ta) (c : Cls X.K C) (D : Dm X.prog X.w X.K X.mg X.base k C m ps sp) (hr : Room k X.A) (ha : PA X (e :: es) t)
    (hst : starEach (e :: es) X.env = (false, eval e X.env) :: starEach es X.env := by rfl) (hpl : (backTo pos (starEach es X.env)).any (·.1) = false := by rfl)
    (ht : eval (.Call (.Attribute o m apos) (e :: es) [] pos) X.env = (do
      let ov ← eval o X.env
      standAt apos.atName
      let (f, first) ← holding [ov] (getMethod ov m pl)
      callWith pos f first (backTo pos (starEach (e :: es) X.env)) (backToKw pos (keywordEach [] X.env))) := by rfl) :
    PE X (.Call (.Attribute o m apos) (e :: es) [] pos) (tMethX C m sp (fun _ => E0) ta t) := by
  have z := pe_dm (pl := pl) he c D hr ha hst hpl ht
  have e1 : tMethX C m sp (fun _ => E0) ta t = tMeth C m sp [] E0 ta t := by
    funext σ H Q
    unfold tMethX tMeth
    simp only [List.append_nil]
  rw [e1]; exact z
/-- Cls.m(self, ..) in a def that lets the error out, or a try -/
theorem pe_dfS {pl : Sem Bool} (tk : Takes X W) (D : Df X.prog X.w X.K X.mg X.base k cn m ps sp) (hr : Room k X.A) (hg : Gl X cn) (ha : PA X (e :: es) t) (hdb : (cn == ("__debug__" : Str)) = false := by decide)
    (hst : starEach (e :: es) X.env = (false, eval e X.env) :: starEach es X.env := by rfl) (hpl : (backTo pos (starEach es X.env)).any (·.1) = false := by rfl)
    (ht : eval (.Call (.Attribute (.Name cn p1) m apos) (e :: es) [] pos) X.env = (do
      let ov ← eval (.Name cn p1) X.env
      standAt apos.atName
      let (f, first) ← holding [ov] (getMethod ov m pl)
      callWith pos f first (backTo pos (starEach (e :: es) X.env)) (backToKw pos (keywordEach [] X.env))) := by rfl) :
    PE X (.Call (.Attribute (.Name cn p1) m apos) (e :: es) [] pos) (tCallS sp (WE W) t) := by
  obtain ⟨Da, f, fd, h1, h2, h3, h4, kp, b, G⟩ := D.ex
  refine ⟨fun pins s σ H Q I h => ?_⟩
  refine PySem.W.methodCall_KW (pl := pl) (ld_glob I hg h1 ?_ hdb) ht
  refine PySem.W.method_cls I.kIn h2 (PySem.W.cls_value I.kIn h3 h4 rfl ?_)
  have I2 := I.tok (s.toks + 1)
  refine PySem.W.callWith_K (first := []) (h₀ := X.base) I.ok.mod.kin kp (thn (ha.run pos pins _ σ H _ I2 h) fun us s1 ⟨vs, H1, I1, r, q⟩ => ⟨I1.kIn, ?_⟩) hst hpl
  exact run_fnS G hr b (L2N.passAt tk σ) I1 r q
/-- the same where nothing is raised -/
theorem pe_dfE {pl : Sem Bool} (D : Df X.prog X.w X.K X.mg X.base k cn m ps sp) (hr : Room k X.A) (hg : Gl X cn) (ha : PA X (e :: es) t) (hdb : (cn == ("__debug__" : Str)) = false := by decide)
    (hst : starEach (e :: es) X.env = (false, eval e X.env) :: starEach es X.env := by rfl) (hpl : (backTo pos (starEach es X.env)).any (·.1) = false := by rfl)
    (ht : eval (.Call (.Attribute (.Name cn p1) m apos) (e :: es) [] pos) X.env = (do
      let ov ← eval (.Name cn p1) X.env
      standAt apos.atName
      let (f, first) ← holding [ov] (getMethod ov m pl)
      callWith pos f first (backTo pos (starEach (e :: es) X.env)) (backToKw pos (keywordEach [] X.env))) := by rfl) :
    PE X (.Call (.Attribute (.Name cn p1) m apos) (e :: es) [] pos) (tCallS sp (fun _ => E0) t) := by
  have z := pe_df (pl := pl) D hr hg ha hdb hst hpl ht
  have e1 : tCallS sp (fun _ => E0) t = tCall sp [] E0 t := by
    funext σ H Q
    show (t σ H fun vs H1 => sp vs H1 Q E0) = (t σ H fun vs H1 => sp (vs ++ []) H1 Q E0)
    simp only [List.append_nil]
  rw [e1]; exact z
end
section
variable {Z : Bs} {F H : Hp} {σ : L2.St} {Γ : Gm} {Ω Ω' Ωr : Om} {K : PySem.W.Frag} {ta tb te : TE} {t tas : TA} {sp : Sp} {Rs : List As} {R : As} {p C dx D : Addr} {m : Str} {fs : List (Str × As)} {j : Nat} {E : L2.St → XK} {n : L2.St → Hp → Prop} {r : VK} {bk ct : L2.St → Hp → Prop}
theorem ev_methX {α : Type} {args : α → List As} {Oi : α → Om} {pre : α → Prop} {res : α → As} (hsub : ∀ vs H Q E, CtR args Oi pre res vs H Q E → sp vs H Q E) (a : α) (ho : Ev Γ Ω ta (Rf p)) (hm : Ω[j]? = some (p, oI C dx fs)) (hn : fs.lookup m = none) (h : EvA Γ Ω t Rs) (ha : args a = Rf p :: Rs) (hs : (Oi a).Sublist Ω) (hp : pre a) :
    Ev Γ Ω (tMethX C m sp E ta t) (res a) := fun Z F H σ c Q q =>
  ho Z F H σ c _ fun x F1 H1 c1 s1 rx => by
    cases rx
    obtain ⟨_, o, h2, vs, eo, hf⟩ := c1.own _ (List.mem_of_getElem? hm)
    subst eo
    refine ⟨p, dx, vs, rfl, h2, hf.none hn, h Z F1 H1 σ c1 _ fun ws F2 H2 c2 s2 rs => hsub _ _ _ _ ?_⟩
    exact ⟨a, F2, c2.sub, by rw [ha]; exact ⟨rfl, rs⟩, c2.own.sub fun x hx => hs.subset hx, nodup_sub c2.nd hs, hp, fun v F3 H3 e3 s3 rv => q v F3 H3 (c2.step e3 s3) (s1.trans (s2.trans e3)) rv⟩
theorem em_methX {α : Type} {args : α → List As} {Oi Oo : α → Om} {pre : α → Prop} {res : α → As} (hsub : ∀ vs H Q E, CtM args Oi pre res Oo vs H Q E → sp vs H Q E) (a : α) (ho : Ev Γ Ω ta (Rf p)) (hm : Ω[j]? = some (p, oI C dx fs)) (hn : fs.lookup m = none) (h : EvA Γ Ω t Rs) (ha : args a = Rf p :: Rs) (hs : Ω.Perm (Oi a ++ Ωr)) (hp : pre a)
    (hoo : (Oo a).map (·.1) = (Oi a).map (·.1)) (hw : ∀ x ∈ (Oi a).map (·.1), Wr Z x) : EvM Z Γ Ω (tMethX C m sp E ta t) (res a) (Oo a ++ Ωr) := fun F H σ c Q k =>
  ho Z F H σ c _ fun x F1 H1 c1 s1 rx => by
    cases rx
    obtain ⟨_, o, h2, vs, eo, hf⟩ := c1.own _ (List.mem_of_getElem? hm)
    subst eo
    refine ⟨p, dx, vs, rfl, h2, hf.none hn, h Z F1 H1 σ c1 _ fun ws F2 H2 c2 s2 rs => hsub _ _ _ _ ?_⟩
    have cp := c2.perm hs
    have nd := cp.nd
    rw [List.map_append, List.nodup_append] at nd
    exact ⟨a, F2, c2.sub, by rw [ha]; exact ⟨rfl, rs⟩, cp.own.sub fun x hx => List.mem_append_left _ hx, nd.1, hp, fun v F3 H3 e3 s3 rv ow => k v F3 H3 (cp.changedG e3 s3 ow (by rw [hoo]; exact nd.1) (fun x hx => .inl (by rw [← hoo]; exact hx)) hw) ((s1.trans s2).fe.trans e3.fe) rv⟩
theorem ev_callRX {α : Type} {args : α → List As} {Oi : α → Om} {pre : α → Prop} {res : α → As} (hsub : ∀ vs H Q E, CtR args Oi pre res vs H Q E → sp vs H Q E) (a : α) (h : EvA Γ Ω t (args a)) (hs : (Oi a).Sublist Ω) (hp : pre a) : Ev Γ Ω (tCallS sp E t) (res a) := fun Z F H σ c Q q =>
  h Z F H σ c _ fun vs F1 H1 c1 s1 rs => hsub _ _ _ _ ⟨a, F1, c1.sub, rs, c1.own.sub fun x hx => hs.subset hx, nodup_sub c1.nd hs, hp, fun v F2 H2 e2 s2 r => q v F2 H2 (c1.step e2 s2) (s1.trans e2) r⟩
/-- f(..), one that may raise but does not here, in a def that would let it out -/
theorem ev_callES {α : Type} {args : α → List As} {pre good : α → Prop} {res : α → As} (a : α) (h : EvA Γ Ω t (args a)) (hp : pre a) (hg : good a) : Ev Γ Ω (tCallS (CtE args pre res good C) E t) (res a) := fun Z F H σ c Q q =>
  h Z F H σ c _ fun vs F1 H1 c1 s1 rs => ⟨a, F1, c1.sub, rs, hp, fun _ v F2 H2 e2 s2 r => q v F2 H2 (c1.step e2 s2) (s1.trans e2) r, fun n => absurd hg n⟩
theorem ev_callS {α : Type} {args : α → List As} {pre : α → Prop} {res : α → As} (a : α) (h : EvA Γ Ω t (args a)) (hp : pre a) : Ev Γ Ω (tCallS (CtF args pre res) E t) (res a) := fun Z F H σ c Q q =>
  h Z F H σ c _ fun vs F1 H1 c1 s1 rs => ⟨a, F1, c1.sub, rs, hp, fun v F2 H2 e2 s2 r => q v F2 H2 (c1.step e2 s2) (s1.trans e2) r⟩
/-- an expression that raises an error of class D, without fields -/
def Rz (E : L2.St → XK) (D : Addr) (Γ : Gm) (Ω : Om) (te : TE) : Prop := ∀ (Z : Bs) (F H : Hp) (σ : L2.St), Ctx Z F H σ Γ Ω → (∀ F' H', Ctx Z F' H' σ Γ Ω → Ext [] F H F' H' → E σ (.ref D) none H') → ∀ Q : VK, te σ H Q
def RzA (E : L2.St → XK) (D : Addr) (Γ : Gm) (Ω : Om) (t : TA) : Prop := ∀ (Z : Bs) (F H : Hp) (σ : L2.St), Ctx Z F H σ Γ Ω → (∀ F' H', Ctx Z F' H' σ Γ Ω → Ext [] F H F' H' → E σ (.ref D) none H') → ∀ Q : List V → Hp → Prop, t σ H Q
theorem rz_meth {α : Type} {args : α → List As} {Oi : α → Om} {pre : α → Prop} {Da : α → Addr} (hsub : ∀ vs H Q E, CtN args Oi pre Da vs H Q E → sp vs H Q E) (a : α) (ho : Ev Γ Ω ta (Rf p)) (hm : Ω[j]? = some (p, oI C dx fs)) (hn : fs.lookup m = none) (h : EvA Γ Ω t Rs) (ha : args a = Rf p :: Rs) (hs : (Oi a).Sublist Ω) (hp : pre a) :
    Rz E (Da a) Γ Ω (tMethX C m sp E ta t) := fun Z F H σ c k Q =>
  ho Z F H σ c _ fun x F1 H1 c1 s1 rx => by
    cases rx
    obtain ⟨_, o, h2, vs, eo, hf⟩ := c1.own _ (List.mem_of_getElem? hm)
    subst eo
    refine ⟨p, dx, vs, rfl, h2, hf.none hn, h Z F1 H1 σ c1 _ fun ws F2 H2 c2 s2 rs => hsub _ _ _ _ ?_⟩
    exact ⟨a, F2, c2.sub, by rw [ha]; exact ⟨rfl, rs⟩, c2.own.sub fun x hx => hs.subset hx, nodup_sub c2.nd hs, hp, fun F3 H3 e3 s3 => k F3 H3 (c2.step e3 s3) (s1.trans (s2.trans e3))⟩
theorem rz_callN {α : Type} {args : α → List As} {Oi : α → Om} {pre : α → Prop} {Da : α → Addr} (hsub : ∀ vs H Q E, CtN args Oi pre Da vs H Q E → sp vs H Q E) (a : α) (h : EvA Γ Ω t (args a)) (hs : (Oi a).Sublist Ω) (hp : pre a) : Rz E (Da a) Γ Ω (tCallS sp E t) := fun Z F H σ c k Q =>
  h Z F H σ c _ fun vs F1 H1 c1 s1 rs => hsub _ _ _ _ ⟨a, F1, c1.sub, rs, c1.own.sub fun x hx => hs.subset hx, nodup_sub c1.nd hs, hp, fun F3 H3 e3 s3 => k F3 H3 (c1.step e3 s3) (s1.trans e3)⟩
theorem rz_callE {α : Type} {args : α → List As} {pre good : α → Prop} {res : α → As} (a : α) (h : EvA Γ Ω t (args a)) (hp : pre a) (hg : ¬ good a) : Rz E C Γ Ω (tCallS (CtE args pre res good C) E t) := fun Z F H σ c k Q =>
  h Z F H σ c _ fun vs F1 H1 c1 s1 rs => ⟨a, F1, c1.sub, rs, hp, fun g => absurd g hg, fun _ F3 H3 e3 s3 => k F3 H3 (c1.step e3 s3) (s1.trans e3)⟩
theorem rza_head (h : Rz E D Γ Ω te) : RzA E D Γ Ω (tCons te t) := fun Z F H σ c k Q => h Z F H σ c k _
theorem rza_tail (h1 : Ev Γ Ω te R) (h : RzA E D Γ Ω t) : RzA E D Γ Ω (tCons te t) := fun Z F H σ c k Q =>
  h1 Z F H σ c _ fun v F1 H1 c1 s1 rv => h Z F1 H1 σ c1 (fun F2 H2 c2 s2 => k F2 H2 c2 (s1.trans s2)) _
theorem rz_callA {E' : XK} {dvs : List V} (h : RzA E D Γ Ω t) : Rz E D Γ Ω (tCall sp dvs E' t) := fun Z F H σ c k Q => h Z F H σ c k _
theorem rz_callSA {E' : L2.St → XK} (h : RzA E D Γ Ω t) : Rz E D Γ Ω (tCallS sp E' t) := fun Z F H σ c k Q => h Z F H σ c k _
theorem rz_cb {rr : List V → Hp → VK → Prop} (h : RzA E D Γ Ω t) : Rz E D Γ Ω (tCB rr t) := fun Z F H σ c k Q => h Z F H σ c k _
theorem rz_opL {rr : R2} (h : Rz E D Γ Ω ta) : Rz E D Γ Ω (tOp rr ta tb) := fun Z F H σ c k Q => h Z F H σ c k _
theorem rz_opR {rr : R2} (h1 : Ev Γ Ω ta R) (h : Rz E D Γ Ω tb) : Rz E D Γ Ω (tOp rr ta tb) := fun Z F H σ c k Q =>
  h1 Z F H σ c _ fun v F1 H1 c1 s1 rv => h Z F1 H1 σ c1 (fun F2 H2 c2 s2 => k F2 H2 c2 (s1.trans s2)) _
theorem rz_ret (c : Ctx Z F H σ Γ Ω) (h : Rz E D Γ Ω te) (k : ∀ F' H', Ctx Z F' H' σ Γ Ω → Ext [] F H F' H' → E σ (.ref D) none H') : tRet te ⟨n, r, bk, ct⟩ σ H := h Z F H σ c k _
theorem rz_drop (c : Ctx Z F H σ Γ Ω) (h : Rz E D Γ Ω te) (k : ∀ F' H', Ctx Z F' H' σ Γ Ω → Ext [] F H F' H' → E σ (.ref D) none H') : tDrop te ⟨n, r, bk, ct⟩ σ H := h Z F H σ c k _
theorem rz_asg {g : TG} (c : Ctx Z F H σ Γ Ω) (h : Rz E D Γ Ω te) (k : ∀ F' H', Ctx Z F' H' σ Γ Ω → Ext [] F H F' H' → E σ (.ref D) none H') : tAsg te g ⟨n, r, bk, ct⟩ σ H := h Z F H σ c k _
end
section
variable {Z : Bs} {F H : Hp} {σ : L2.St} {Γ : Gm} {Ω : Om} {K : PySem.W.Frag} {ta tb te : TE} {t : TA} {sp : Sp} {Rs Ss : List As} {R : As} {p D : Addr} {j i : Nat} {E : L2.St → XK} {E' : XK} {cls c : Value} {d : Option Addr} {ts : Addr → Value → Option Addr → TS} {Wout : WX} {D0 : Ends} {l : List Cls3}
theorem wm_hit (h : PySem.W.exmOne K cls c = some true) (k : ∀ a, H a = none → ts a cls d (outN i D0) (σ.set i (some (.ref a))) H) : wM K Wout D0 ((c, some i, ts) :: l) cls d σ H := ⟨true, h, fun _ => k, fun z => Bool.noConfusion z⟩
theorem wm_hit0 (h : PySem.W.exmOne K cls c = some true) (k : ∀ a, H a = none → ts a cls d D0 σ H) : wM K Wout D0 ((c, none, ts) :: l) cls d σ H := ⟨true, h, fun _ => k, fun z => Bool.noConfusion z⟩
theorem wm_skip (h : PySem.W.exmOne K cls c = some false) (k : wM K Wout D0 l cls d σ H) : wM K Wout D0 ((c, some i, ts) :: l) cls d σ H := ⟨false, h, fun z => Bool.noConfusion z, fun _ => k⟩
theorem wm_skip0 (h : PySem.W.exmOne K cls c = some false) (k : wM K Wout D0 l cls d σ H) : wM K Wout D0 ((c, none, ts) :: l) cls d σ H := ⟨false, h, fun z => Bool.noConfusion z, fun _ => k⟩
theorem ev_callF {α : Type} {args : α → List As} {pre : α → Prop} {res : α → As} (hsub : ∀ vs H Q E, CtF args pre res vs H Q E → sp vs H Q E) (a : α) (h : EvA Γ Ω t (args a)) (hp : pre a) : Ev Γ Ω (tCall sp [] E' t) (res a) := fun Z F H σ c Q q =>
  h Z F H σ c _ fun vs F1 H1 c1 s1 rs => hsub _ _ _ _ ⟨a, F1, c1.sub, by rw [List.append_nil]; exact rs, hp, fun v F2 H2 e2 s2 r => q v F2 H2 (c1.step e2 s2) (s1.trans e2) r⟩
theorem ev_callFS {α : Type} {args : α → List As} {pre : α → Prop} {res : α → As} (hsub : ∀ vs H Q E, CtF args pre res vs H Q E → sp vs H Q E) (a : α) (h : EvA Γ Ω t (args a)) (hp : pre a) : Ev Γ Ω (tCallS sp E t) (res a) := fun Z F H σ c Q q =>
  h Z F H σ c _ fun vs F1 H1 c1 s1 rs => hsub _ _ _ _ ⟨a, F1, c1.sub, rs, hp, fun v F2 H2 e2 s2 r => q v F2 H2 (c1.step e2 s2) (s1.trans e2) r⟩
theorem rz_tup (h : RzA E D Γ Ω t) : Rz E D Γ Ω (tTup t) := fun Z F H σ c k Q => h Z F H σ c k _
/-- [e, ..], owned -/
theorem eo_lst (h : EvA Γ Ω t Rs) (hl : Rs.length ≤ 1000 := by decide) : EvNw Γ Ω (tLst t) (oL Rs) := fun Z F H σ c Q q =>
  h Z F H σ c _ fun vs F1 H1 c1 s1 rs => ⟨by rw [rs.length]; exact Nat.le_of_lt (small1000 hl), fun p hp => q p F1 _ (c1.grow (A := oL Rs) hp ⟨vs, rfl, rs⟩) (s1.trans (Ext.newH hp)) (s1.dm _ hp)⟩
/-- l + m, l owned -/
theorem ev_catO (ha : Ev Γ Ω ta (Rf p)) (hm : Ω[j]? = some (p, oL Rs)) (hb : Lw Γ Ω tb Ss) (hn : Rs.length + Ss.length ≤ 1000000) : Ev Γ Ω (tOp rCat ta tb) (Ls K (Rs ++ Ss)) := fun Z F H σ c Q q =>
  ha Z F H σ c _ fun v F1 H1 c1 s1 rv => hb Z F1 H1 σ c1 _ fun b F2 H2 c2 s2 ⟨ys, e2, l2⟩ => by
    cases rv
    obtain ⟨_, o, h2, xs, eo, l1⟩ := c2.own _ (List.mem_of_getElem? hm)
    subst eo
    refine ⟨p, b, xs, ys, rfl, rfl, h2, c2.sub _ _ e2, by rw [l1.length, l2.length] at *; exact Nat.le_trans hn (by decide), fun x hx => ?_⟩
    obtain ⟨F3, H3, e, c3, s3, r⟩ := new_ls (K := K) c2 (l1.app l2) hx
    rw [← e]
    exact q _ F3 H3 c3 (s1.trans (s2.trans s3)) r
end
section
variable {Z : Bs} {F H : Hp} {σ : L2.St} {Γ : Gm} {Ω : Om} {ta tb te : TE} {D : Addr} {E : L2.St → XK} {n : L2.St → Hp → Prop} {r : VK} {bk ct : L2.St → Hp → Prop}
theorem rz_sput (c : Ctx Z F H σ Γ Ω) (h : Rz E D Γ Ω te) (k : ∀ F' H', Ctx Z F' H' σ Γ Ω → Ext [] F H F' H' → E σ (.ref D) none H') : sDPut ta tb te ⟨n, r, bk, ct⟩ σ H := h Z F H σ c k _
end
theorem Tf.okX {P : Program} {w : World} {K : PySem.W.Frag} {mg : Str → Option Value} {base : Heap} {cn m qual : Str} {st : Stmt} {N ps : List Str} {k : Nat} {sp : Sp} (T : Tf K mg cn m qual st ps) (S : FnScope N ps (defScope st)) (len : ∀ vs H Q E, sp vs H Q E → vs.length = ps.length)
    (hbody : ∀ (f : Addr) (cdv : Value) (A : Around) (outer : List Env) (s : Shared) (H : Hp) (vs : List V) (Q : VK) (E : XK), Room k (A.deeper (envOfC qual (defScope st) s.heap.objs.size f cdv)) → sp vs H Q E →
      ∃ t, PSs (cxOf (L2N.CX P w) P w K mg base N qual (defScope st) f cdv A outer s H E) (defBody st) t ∧ t { nx := fun _ H' => Q .non H', rt := Q } (L2.start N vs) H) : Df P w K mg base (k + 1) cn m ps sp := by
  obtain ⟨D, f, fd, h1, h2, h3, h4, F, b⟩ := T.ex
  exact ⟨D, f, fd, h1, h2, h3, h4, F.kp, b, fun_okN F S len (hbody f)⟩
/-! ## a method of a thing that is of one of two classes -/
def tMeth2 (C1 C2 : Addr) (m : Str) (sp1 sp2 : Sp) (E : L2.St → XK) (ta : TE) (t : TA) : TE := fun σ H Q => ta σ H fun x H1 =>
  (∃ a dx fs, x = .ref a ∧ H1 a = some (.ins C1 dx fs) ∧ fs.lookup m = none ∧ t σ H1 fun vs H2 => sp1 (x :: vs) H2 Q (E σ)) ∨
  (∃ a dx fs, x = .ref a ∧ H1 a = some (.ins C2 dx fs) ∧ fs.lookup m = none ∧ t σ H1 fun vs H2 => sp2 (x :: vs) H2 Q (E σ))
section
variable {X : Cx} {C1 C2 : Addr} {m : Str} {ps : List Str} {sp1 sp2 : Sp} {k1 k2 : Nat} {pos apos : Pos} {e o : Expr} {es : List Expr} {t : TA} {ta : TE} {W : WX}
theorem pe_dm2S {pl : Sem Bool} (tk : Takes X W) (he : PE X o ta) (c1 : Cls X.K C1) (D1 : Dm X.prog X.w X.K X.mg X.base k1 C1 m ps sp1) (c2 : Cls X.K C2) (D2 : Dm X.prog X.w X.K X.mg X.base k2 C2 m ps sp2) (hr1 : Room k1 X.A) (hr2 : Room k2 X.A) (ha : PA X (e :: es) t)
    (hst : starEach (e :: es) X.env = (false, eval e X.env) :: starEach es X.env := by rfl) (hpl : (backTo pos (starEach es X.env)).any (·.1) = false := by rfl)
    (ht : eval (.Call (.Attribute o m apos) (e :: es) [] pos) X.env = (do
      let ov ← eval o X.env
      standAt apos.atName
      let (f, first) ← holding [ov] (getMethod ov m pl)
      callWith pos f first (backTo pos (starEach (e :: es) X.env)) (backToKw pos (keywordEach [] X.env))) := by rfl) :
    PE X (.Call (.Attribute o m apos) (e :: es) [] pos) (tMeth2 C1 C2 m sp1 sp2 (WE W) ta t) := by
  obtain ⟨f1, fd1, hm1, b1, G1⟩ := D1.ex
  obtain ⟨f2, fd2, hm2, b2, G2⟩ := D2.ex
  refine ⟨fun pins s σ H Q I h => ?_⟩
  refine PySem.W.methodCall_KW (pl := pl) (thn (he.run pins s σ H _ I h) fun u s1 ⟨x, H1, I1, rx, h1⟩ => ?_) ht
  rcases h1 with ⟨a, dx, fs, ex, ea, l, q⟩ | ⟨a, dx, fs, ex, ea, l, q⟩
  · subst ex
    obtain rfl : u = Value.ref a := rx
    refine getmeth_ok I1 ea c1 hm1 l ?_
    refine PySem.W.callWith_K (first := [.ref a]) (h₀ := X.base) I.ok.mod.kin hm1.kp (thn (ha.run pos pins s1 σ H1 _ I1 q) fun us s2 ⟨vs, H2, I2, r, q2⟩ => ⟨I2.kIn, ?_⟩) hst hpl
    exact run_fnS (us := .ref a :: us) (vs := .ref a :: vs) G1 hr1 b1 (L2N.passAt tk σ) I2 (.cons rfl r) q2
  · subst ex
    obtain rfl : u = Value.ref a := rx
    refine getmeth_ok I1 ea c2 hm2 l ?_
    refine PySem.W.callWith_K (first := [.ref a]) (h₀ := X.base) I.ok.mod.kin hm2.kp (thn (ha.run pos pins s1 σ H1 _ I1 q) fun us s2 ⟨vs, H2, I2, r, q2⟩ => ⟨I2.kIn, ?_⟩) hst hpl
    exact run_fnS (us := .ref a :: us) (vs := .ref a :: vs) G2 hr2 b2 (L2N.passAt tk σ) I2 (.cons rfl r) q2
/-- the same in a def that lets nothing out -/
theorem pe_dm2E {pl : Sem Bool} (he : PE X o ta) (c1 : Cls X.K C1) (D1 : Dm X.prog X.w X.K X.mg X.base k1 C1 m ps sp1) (c2 : Cls X.K C2) (D2 : Dm X.prog X.w X.K X.mg X.base k2 C2 m ps sp2) (hr1 : Room k1 X.A) (hr2 : Room k2 X.A) (ha : PA X (e :: es) t)
    (hst : starEach (e :: es) X.env = (false, eval e X.env) :: starEach es X.env := by rfl) (hpl : (backTo pos (starEach es X.env)).any (·.1) = false := by rfl)
    (ht : eval (.Call (.Attribute o m apos) (e :: es) [] pos) X.env = (do
      let ov ← eval o X.env
      standAt apos.atName
      let (f, first) ← holding [ov] (getMethod ov m pl)
      callWith pos f first (backTo pos (starEach (e :: es) X.env)) (backToKw pos (keywordEach [] X.env))) := by rfl) :
    PE X (.Call (.Attribute o m apos) (e :: es) [] pos) (tMeth2 C1 C2 m sp1 sp2 (fun _ => E0) ta t) := by
  obtain ⟨f1, fd1, hm1, b1, G1⟩ := D1.ex
  obtain ⟨f2, fd2, hm2, b2, G2⟩ := D2.ex
  refine ⟨fun pins s σ H Q I h => ?_⟩
  refine PySem.W.methodCall_KW (pl := pl) (thn (he.run pins s σ H _ I h) fun u s1 ⟨x, H1, I1, rx, h1⟩ => ?_) ht
  rcases h1 with ⟨a, dx, fs, ex, ea, l, q⟩ | ⟨a, dx, fs, ex, ea, l, q⟩
  · subst ex
    obtain rfl : u = Value.ref a := rx
    refine getmeth_ok I1 ea c1 hm1 l ?_
    refine PySem.W.callWith_K (first := [.ref a]) (h₀ := X.base) I.ok.mod.kin hm1.kp (thn (ha.run pos pins s1 σ H1 _ I1 q) fun us s2 ⟨vs, H2, I2, r, q2⟩ => ⟨I2.kIn, ?_⟩) hst hpl
    exact run_fnS (E := fun _ => E0) (us := .ref a :: us) (vs := .ref a :: vs) G1 hr1 b1 (fun pins' H' s' e s'' I' h' => passL pins' σ H' s' e s'' I' h') I2 (.cons rfl r) q2
  · subst ex
    obtain rfl : u = Value.ref a := rx
    refine getmeth_ok I1 ea c2 hm2 l ?_
    refine PySem.W.callWith_K (first := [.ref a]) (h₀ := X.base) I.ok.mod.kin hm2.kp (thn (ha.run pos pins s1 σ H1 _ I1 q) fun us s2 ⟨vs, H2, I2, r, q2⟩ => ⟨I2.kIn, ?_⟩) hst hpl
    exact run_fnS (E := fun _ => E0) (us := .ref a :: us) (vs := .ref a :: vs) G2 hr2 b2 (fun pins' H' s' e s'' I' h' => passL pins' σ H' s' e s'' I' h') I2 (.cons rfl r) q2
/-- the same without arguments -/
theorem pe_dm20E {pl : Sem Bool} (he : PE X o ta) (c1 : Cls X.K C1) (D1 : Dm X.prog X.w X.K X.mg X.base k1 C1 m ps sp1) (c2 : Cls X.K C2) (D2 : Dm X.prog X.w X.K X.mg X.base k2 C2 m ps sp2) (hr1 : Room k1 X.A) (hr2 : Room k2 X.A)
    (ht : eval (.Call (.Attribute o m apos) [] [] pos) X.env = (do
      let ov ← eval o X.env
      standAt apos.atName
      let (f, first) ← holding [ov] (getMethod ov m pl)
      callWith pos f first (backTo pos (starEach [] X.env)) (backToKw pos (keywordEach [] X.env))) := by rfl) :
    PE X (.Call (.Attribute o m apos) [] [] pos) (tMeth2 C1 C2 m sp1 sp2 (fun _ => E0) ta tNil) := by
  obtain ⟨f1, fd1, hm1, b1, G1⟩ := D1.ex
  obtain ⟨f2, fd2, hm2, b2, G2⟩ := D2.ex
  refine ⟨fun pins s σ H Q I h => ?_⟩
  refine PySem.W.methodCall_KW (pl := pl) (thn (he.run pins s σ H _ I h) fun u s1 ⟨x, H1, I1, rx, h1⟩ => ?_) ht
  rcases h1 with ⟨a, dx, fs, ex, ea, l, q⟩ | ⟨a, dx, fs, ex, ea, l, q⟩
  · subst ex
    obtain rfl : u = Value.ref a := rx
    refine getmeth_ok I1 ea c1 hm1 l ?_
    exact PySem.W.callWith_K0 (first := [.ref a]) I1.kIn hm1.kp (run_fn (us := [.ref a]) (vs := [.ref a]) G1 hr1 b1 .nil passL I1 (.cons rfl .nil) q)
  · subst ex
    obtain rfl : u = Value.ref a := rx
    refine getmeth_ok I1 ea c2 hm2 l ?_
    exact PySem.W.callWith_K0 (first := [.ref a]) I1.kIn hm2.kp (run_fn (us := [.ref a]) (vs := [.ref a]) G2 hr2 b2 .nil passL I1 (.cons rfl .nil) q)
end
section
variable {Z : Bs} {F H : Hp} {σ : L2.St} {Γ : Gm} {Ω Ω' Ωr : Om} {K : PySem.W.Frag} {ta tb te : TE} {t tas : TA} {sp : Sp} {Rs : List As} {R : As} {p C C' dx D : Addr} {m : Str} {fs : List (Str × As)} {j : Nat} {E : L2.St → XK} {sp' : Sp}
theorem ev_meth2l {α : Type} {args : α → List As} {Oi : α → Om} {pre : α → Prop} {res : α → As} (hsub : ∀ vs H Q E, CtR args Oi pre res vs H Q E → sp vs H Q E) (a : α) (ho : Ev Γ Ω ta (Rf p)) (hm : Ω[j]? = some (p, oI C dx fs)) (hn : fs.lookup m = none) (h : EvA Γ Ω t Rs) (ha : args a = Rf p :: Rs) (hs : (Oi a).Sublist Ω) (hp : pre a) :
    Ev Γ Ω (tMeth2 C C' m sp sp' E ta t) (res a) := fun Z F H σ c Q q =>
  ho Z F H σ c _ fun x F1 H1 c1 s1 rx => by
    cases rx
    obtain ⟨_, o, h2, vs, eo, hf⟩ := c1.own _ (List.mem_of_getElem? hm)
    subst eo
    refine .inl ⟨p, dx, vs, rfl, h2, hf.none hn, h Z F1 H1 σ c1 _ fun ws F2 H2 c2 s2 rs => hsub _ _ _ _ ?_⟩
    exact ⟨a, F2, c2.sub, by rw [ha]; exact ⟨rfl, rs⟩, c2.own.sub fun x hx => hs.subset hx, nodup_sub c2.nd hs, hp, fun v F3 H3 e3 s3 rv => q v F3 H3 (c2.step e3 s3) (s1.trans (s2.trans e3)) rv⟩
theorem ev_meth2r {α : Type} {args : α → List As} {Oi : α → Om} {pre : α → Prop} {res : α → As} (hsub : ∀ vs H Q E, CtR args Oi pre res vs H Q E → sp vs H Q E) (a : α) (ho : Ev Γ Ω ta (Rf p)) (hm : Ω[j]? = some (p, oI C dx fs)) (hn : fs.lookup m = none) (h : EvA Γ Ω t Rs) (ha : args a = Rf p :: Rs) (hs : (Oi a).Sublist Ω) (hp : pre a) :
    Ev Γ Ω (tMeth2 C' C m sp' sp E ta t) (res a) := fun Z F H σ c Q q =>
  ho Z F H σ c _ fun x F1 H1 c1 s1 rx => by
    cases rx
    obtain ⟨_, o, h2, vs, eo, hf⟩ := c1.own _ (List.mem_of_getElem? hm)
    subst eo
    refine .inr ⟨p, dx, vs, rfl, h2, hf.none hn, h Z F1 H1 σ c1 _ fun ws F2 H2 c2 s2 rs => hsub _ _ _ _ ?_⟩
    exact ⟨a, F2, c2.sub, by rw [ha]; exact ⟨rfl, rs⟩, c2.own.sub fun x hx => hs.subset hx, nodup_sub c2.nd hs, hp, fun v F3 H3 e3 s3 rv => q v F3 H3 (c2.step e3 s3) (s1.trans (s2.trans e3)) rv⟩
theorem em_meth2l {α : Type} {args : α → List As} {Oi Oo : α → Om} {pre : α → Prop} {res : α → As} (hsub : ∀ vs H Q E, CtM args Oi pre res Oo vs H Q E → sp vs H Q E) (a : α) (ho : Ev Γ Ω ta (Rf p)) (hm : Ω[j]? = some (p, oI C dx fs)) (hn : fs.lookup m = none) (h : EvA Γ Ω t Rs) (ha : args a = Rf p :: Rs) (hs : Ω.Perm (Oi a ++ Ωr)) (hp : pre a)
    (hoo : (Oo a).map (·.1) = (Oi a).map (·.1)) (hw : ∀ x ∈ (Oi a).map (·.1), Wr Z x) : EvM Z Γ Ω (tMeth2 C C' m sp sp' E ta t) (res a) (Oo a ++ Ωr) := fun F H σ c Q k =>
  ho Z F H σ c _ fun x F1 H1 c1 s1 rx => by
    cases rx
    obtain ⟨_, o, h2, vs, eo, hf⟩ := c1.own _ (List.mem_of_getElem? hm)
    subst eo
    refine .inl ⟨p, dx, vs, rfl, h2, hf.none hn, h Z F1 H1 σ c1 _ fun ws F2 H2 c2 s2 rs => hsub _ _ _ _ ?_⟩
    have cp := c2.perm hs
    have nd := cp.nd
    rw [List.map_append, List.nodup_append] at nd
    exact ⟨a, F2, c2.sub, by rw [ha]; exact ⟨rfl, rs⟩, cp.own.sub fun x hx => List.mem_append_left _ hx, nd.1, hp, fun v F3 H3 e3 s3 rv ow => k v F3 H3 (cp.changedG e3 s3 ow (by rw [hoo]; exact nd.1) (fun x hx => .inl (by rw [← hoo]; exact hx)) hw) ((s1.trans s2).fe.trans e3.fe) rv⟩
theorem em_meth2r {α : Type} {args : α → List As} {Oi Oo : α → Om} {pre : α → Prop} {res : α → As} (hsub : ∀ vs H Q E, CtM args Oi pre res Oo vs H Q E → sp vs H Q E) (a : α) (ho : Ev Γ Ω ta (Rf p)) (hm : Ω[j]? = some (p, oI C dx fs)) (hn : fs.lookup m = none) (h : EvA Γ Ω t Rs) (ha : args a = Rf p :: Rs) (hs : Ω.Perm (Oi a ++ Ωr)) (hp : pre a)
    (hoo : (Oo a).map (·.1) = (Oi a).map (·.1)) (hw : ∀ x ∈ (Oi a).map (·.1), Wr Z x) : EvM Z Γ Ω (tMeth2 C' C m sp' sp E ta t) (res a) (Oo a ++ Ωr) := fun F H σ c Q k =>
  ho Z F H σ c _ fun x F1 H1 c1 s1 rx => by
    cases rx
    obtain ⟨_, o, h2, vs, eo, hf⟩ := c1.own _ (List.mem_of_getElem? hm)
    subst eo
    refine .inr ⟨p, dx, vs, rfl, h2, hf.none hn, h Z F1 H1 σ c1 _ fun ws F2 H2 c2 s2 rs => hsub _ _ _ _ ?_⟩
    have cp := c2.perm hs
    have nd := cp.nd
    rw [List.map_append, List.nodup_append] at nd
    exact ⟨a, F2, c2.sub, by rw [ha]; exact ⟨rfl, rs⟩, cp.own.sub fun x hx => List.mem_append_left _ hx, nd.1, hp, fun v F3 H3 e3 s3 rv ow => k v F3 H3 (cp.changedG e3 s3 ow (by rw [hoo]; exact nd.1) (fun x hx => .inl (by rw [← hoo]; exact hx)) hw) ((s1.trans s2).fe.trans e3.fe) rv⟩
theorem rz_meth2l {α : Type} {args : α → List As} {Oi : α → Om} {pre : α → Prop} {Da : α → Addr} (hsub : ∀ vs H Q E, CtN args Oi pre Da vs H Q E → sp vs H Q E) (a : α) (ho : Ev Γ Ω ta (Rf p)) (hm : Ω[j]? = some (p, oI C dx fs)) (hn : fs.lookup m = none) (h : EvA Γ Ω t Rs) (ha : args a = Rf p :: Rs) (hs : (Oi a).Sublist Ω) (hp : pre a) :
    Rz E (Da a) Γ Ω (tMeth2 C C' m sp sp' E ta t) := fun Z F H σ c k Q =>
  ho Z F H σ c _ fun x F1 H1 c1 s1 rx => by
    cases rx
    obtain ⟨_, o, h2, vs, eo, hf⟩ := c1.own _ (List.mem_of_getElem? hm)
    subst eo
    refine .inl ⟨p, dx, vs, rfl, h2, hf.none hn, h Z F1 H1 σ c1 _ fun ws F2 H2 c2 s2 rs => hsub _ _ _ _ ?_⟩
    exact ⟨a, F2, c2.sub, by rw [ha]; exact ⟨rfl, rs⟩, c2.own.sub fun x hx => hs.subset hx, nodup_sub c2.nd hs, hp, fun F3 H3 e3 s3 => k F3 H3 (c2.step e3 s3) (s1.trans (s2.trans e3))⟩
theorem rz_meth2r {α : Type} {args : α → List As} {Oi : α → Om} {pre : α → Prop} {Da : α → Addr} (hsub : ∀ vs H Q E, CtN args Oi pre Da vs H Q E → sp vs H Q E) (a : α) (ho : Ev Γ Ω ta (Rf p)) (hm : Ω[j]? = some (p, oI C dx fs)) (hn : fs.lookup m = none) (h : EvA Γ Ω t Rs) (ha : args a = Rf p :: Rs) (hs : (Oi a).Sublist Ω) (hp : pre a) :
    Rz E (Da a) Γ Ω (tMeth2 C' C m sp' sp E ta t) := fun Z F H σ c k Q =>
  ho Z F H σ c _ fun x F1 H1 c1 s1 rx => by
    cases rx
    obtain ⟨_, o, h2, vs, eo, hf⟩ := c1.own _ (List.mem_of_getElem? hm)
    subst eo
    refine .inr ⟨p, dx, vs, rfl, h2, hf.none hn, h Z F1 H1 σ c1 _ fun ws F2 H2 c2 s2 rs => hsub _ _ _ _ ?_⟩
    exact ⟨a, F2, c2.sub, by rw [ha]; exact ⟨rfl, rs⟩, c2.own.sub fun x hx => hs.subset hx, nodup_sub c2.nd hs, hp, fun F3 H3 e3 s3 => k F3 H3 (c2.step e3 s3) (s1.trans (s2.trans e3))⟩
end
/-! ## slices of texts; a new list frozen inside a def that changes what it owns -/
section
variable {Z : Bs} {F H : Hp} {σ : L2.St} {Γ : Gm} {Ω : Om} {K : PySem.W.Frag} {te : TE} {Rs : List As} {p : Addr} {i j : Nat}
theorem ev_slS {z : Str} {tl th : TO} {lo hi : Option Int} (h : Ev Γ Ω te (S z)) (h1 : EvO Γ Ω tl lo) (h2 : EvO Γ Ω th hi) (hz : z.length ≤ sizeLine) : Ev Γ Ω (tSl rSlS te tl th) (S (cutS z lo hi)) := fun Z F H σ c Q q =>
  h Z F H σ c _ fun v F1 H1 c1 s1 rv => h1 Z F1 H1 σ c1 _ fun F2 H2 c2 s2 => h2 Z F2 H2 σ c2 _ fun F3 H3 c3 s3 => by
    cases rv
    exact ⟨z, rfl, hz, q _ F3 H3 c3 (s1.trans (s2.trans s3)) rfl⟩
theorem Ctx.frzSW (c : Ctx Z F H σ Γ Ω) (hi : Γ[i]? = some (some (Rf p))) (hm : Ω[j]? = some (p, oL Rs)) (hz : Z.H p = none) : ∃ F', Same F F' ∧ Ctx Z F' H σ (Γ.set i (some (Ls K Rs))) (Ω.eraseIdx j) := by
  obtain ⟨F', s, c', q⟩ := c.frzW (K := K) hm rdL hz
  obtain ⟨v, e1, e2⟩ := c.sat.get hi
  have e2 : v = .ref p := e2
  subst e2
  have z := c'.set i q
  rw [set_same e1] at z
  exact ⟨F', s, z⟩
end
theorem ty_str {K : PySem.W.Frag} {x : Str} : HasTy K (S x) (.type "str") := ⟨fun F H v s e => by cases e; exact .base (.str x)⟩
end Y

namespace Y
open PySem L2 PySem.Spec
open PyProof.Rows (envOfC)
section
variable {Γ : Gm} {Ω : Om} {K : PySem.W.Frag} {ta tb te : TE} {Rs Ss : List As} {p p1 p2 : Addr} {j j1 j2 : Nat}
/-- a slice, owned -/
theorem eo_sl {tl th : TO} {lo hi : Option Int} (ha : Lk K Γ Ω ta Rs) (h1 : EvO Γ Ω tl lo) (h2 : EvO Γ Ω th hi) : EvNw Γ Ω (tSl (rSlL K) ta tl th) (oL (cutA Rs lo hi)) := fun Z F H σ c Q q =>
  ha Z F H σ c _ fun a F1 H1 c1 s1 hs => h1 Z F1 H1 σ c1 _ fun F2 H2 c2 s2 => h2 Z F2 H2 σ c2 _ fun F3 H3 c3 s3 => by
    obtain ⟨xs, hs1, hl⟩ := hs F3 H3 c3 (s2.trans s3).fe
    refine ⟨a, xs, rfl, hs1, fun p hp => ?_⟩
    have hz : All F3 (cutA Rs lo hi) (cutV xs lo hi) := by
      unfold cutA cutV
      rw [hl.length]
      exact (hl.drop _).take _
    exact q p F3 _ (c3.grow (A := oL (cutA Rs lo hi)) hp ⟨_, rfl, hz⟩) ((s1.trans (s2.trans s3)).trans (Ext.newH hp)) ((s1.trans (s2.trans s3)).dm _ hp)
/-- l + m, owned -/
theorem eo_cat (ha : Lw Γ Ω ta Rs) (hb : Lw Γ Ω tb Ss) (hn : Rs.length + Ss.length ≤ 1000000) : EvNw Γ Ω (tOp rCat ta tb) (oL (Rs ++ Ss)) := fun Z F H σ c Q q =>
  ha Z F H σ c _ fun a F1 H1 c1 s1 ⟨xs, e1, l1⟩ => hb Z F1 H1 σ c1 _ fun b F2 H2 c2 s2 ⟨ys, e2, l2⟩ => by
    have l1' := l1.mono s2.fe
    refine ⟨a, b, xs, ys, rfl, rfl, c2.sub _ _ (s2.fe _ _ e1), c2.sub _ _ e2, by rw [← l1.length, ← l2.length] at *; exact Nat.le_trans hn (by decide), fun p hp => ?_⟩
    exact q p F2 _ (c2.grow (A := oL (Rs ++ Ss)) hp ⟨_, rfl, l1'.app l2⟩) ((s1.trans s2).trans (Ext.newH hp)) ((s1.trans s2).dm _ hp)
theorem eo_is {A B : OA} (h : EvNw Γ Ω te A) (e : A = B) : EvNw Γ Ω te B := e ▸ h
/-- d != e, of texts and whole numbers, alike -/
theorem ev_neSS {l1 l2 : List (Str × Int)} (h1 : Ev Γ Ω ta (Rf p1)) (m1 : Ω[j1]? = some (p1, oS (l1.map fun x => (x.1, I x.2)))) (h2 : Ev Γ Ω tb (Rf p2)) (m2 : Ω[j2]? = some (p2, oS (l2.map fun x => (x.1, I x.2)))) (hl : l1.length = l2.length) (hh : ∀ x ∈ l1, getS x.1 l2 = some x.2) : Ev Γ Ω (tOp rNeDA ta tb) (B false) := fun Z F H σ c Q q =>
  h1 Z F H σ c _ fun v F1 H1 c1 s1 rv => h2 Z F1 H1 σ c1 _ fun w F2 H2 c2 s2 rw' => by
    cases rv
    cases rw'
    obtain ⟨_, o, e1, k1, eo1, a1⟩ := c2.own _ (List.mem_of_getElem? m1)
    obtain ⟨_, o', e2, k2, eo2, a2⟩ := c2.own _ (List.mem_of_getElem? m2)
    subst eo1 eo2
    have z1 := allS_int a1
    have z2 := allS_int a2
    subst z1 z2
    refine ⟨p1, p2, _, _, rfl, rfl, e1, e2, by rw [List.length_map, List.length_map, hl], fun y hy => ?_, q _ F2 H2 c2 (s1.trans s2) rfl⟩
    obtain ⟨x, hx, ex⟩ := List.mem_map.mp hy
    subst ex
    exact ⟨valV_int (hh x hx), rfl⟩
theorem ev_addS {x y : Str} (ha : Ev Γ Ω ta (S x)) (hb : Ev Γ Ω tb (S y)) (h : x.length + y.length ≤ sizeLine) : Ev Γ Ω (tOp (fun x y H Q => ∃ i j, x = .str i ∧ y = .str j ∧ i.length + j.length ≤ sizeLine ∧ Q (.str (i ++ j)) H) ta tb) (S (x ++ y)) := ev_op ha hb fun F H v w s e e' Q q => ⟨x, y, e, e', h, q _ F H (Ext.refl _ _ _) s rfl⟩
theorem oV_inj {a b : Option Str} : decide (oV a = oV b) = decide (a = b) := by
  cases a <;> cases b <;> simp [oV]
theorem ev_neOO {o u : Option Str} (ha : Ev Γ Ω ta (Op (fun x => S x) o)) (hb : Ev Γ Ω tb (Op (fun x => S x) u)) : Ev Γ Ω (tOp rNe ta tb) (B (!decide (o = u))) := ev_op ha hb fun F H v w s e e' Q q => by
  have e := op_oV e
  have e' := op_oV e'
  subst e e'
  refine ⟨by cases o <;> cases u <;> rfl, ?_⟩
  rw [oV_inj]
  exact q _ F H (Ext.refl _ _ _) s rfl
theorem ev_eqOO {o u : Option Str} (ha : Ev Γ Ω ta (Op (fun x => S x) o)) (hb : Ev Γ Ω tb (Op (fun x => S x) u)) : Ev Γ Ω (tOp rEq ta tb) (B (decide (o = u))) := ev_op ha hb fun F H v w s e e' Q q => by
  have e := op_oV e
  have e' := op_oV e'
  subst e e'
  refine ⟨by cases o <;> cases u <;> rfl, ?_⟩
  rw [oV_inj]
  exact q _ F H (Ext.refl _ _ _) s rfl
end
/-! ## a method that reads and hands out something new -/
def CtRO {α : Type} (args : α → List As) (Oi : α → Om) (pre : α → Prop) (A : α → OA) : Sp := fun vs H Q _ =>
  ∃ a F, Same F H ∧ All F (args a) vs ∧ Own F H (Oi a) ∧ ((Oi a).map (·.1)).Nodup ∧ pre a ∧ ∀ p F' H', Ext [] F H F' H' → Same F' H' → H p = none → Own F' H' [(p, A a)] → Q (.ref p) H'
theorem CtRO.len {α : Type} {args : α → List As} {Oi : α → Om} {pre : α → Prop} {A : α → OA} {n : Nat} (h : ∀ a, (args a).length = n) : ∀ vs H Q E, CtRO args Oi pre A vs H Q E → vs.length = n := by
  rintro vs H Q E ⟨a, F, _, ha, _⟩
  rw [ha.length, h]
section
variable {Z : Bs} {F H : Hp} {σ : L2.St} {Γ : Gm} {Ω Ωr : Om} {K : PySem.W.Frag} {ta tb te : TE} {t tr : TA} {sp : Sp} {Rs : List As} {R : As} {p C dx : Addr} {m : Str} {fs : List (Str × As)} {j : Nat} {E : XK}
theorem eo_meth {α : Type} {args : α → List As} {Oi : α → Om} {pre : α → Prop} {A : α → OA} (a : α) (ho : Ev Γ Ω ta (Rf p)) (hm : Ω[j]? = some (p, oI C dx fs)) (hn : fs.lookup m = none) (h : EvA Γ Ω t Rs) (ha : args a = Rf p :: Rs) (hs : (Oi a).Sublist Ω) (hp : pre a) :
    EvNw Γ Ω (tMeth C m (CtRO args Oi pre A) [] E ta t) (A a) := fun Z F H σ c Q q =>
  ho Z F H σ c _ fun x F1 H1 c1 s1 rx => by
    cases rx
    obtain ⟨_, o, h2, vs, eo, hf⟩ := c1.own _ (List.mem_of_getElem? hm)
    subst eo
    refine ⟨p, dx, vs, rfl, h2, hf.none hn, h Z F1 H1 σ c1 _ fun ws F2 H2 c2 s2 rs => ?_⟩
    refine ⟨a, F2, c2.sub, ?_, c2.own.sub fun x hx => hs.subset hx, nodup_sub c2.nd hs, hp, fun q0 F3 H3 e3 s3 hq0 ow => q q0 F3 H3 (c2.add e3 s3 ow hq0) (s1.trans (s2.trans e3)) ((s1.trans s2).dm _ hq0)⟩
    rw [ha, List.append_nil]
    exact ⟨rfl, rs⟩
theorem eo_callRO {α : Type} {args : α → List As} {Oi : α → Om} {pre : α → Prop} {A : α → OA} (hsub : ∀ vs H Q E, CtRO args Oi pre A vs H Q E → sp vs H Q E) (a : α) (h : EvA Γ Ω t (args a)) (hs : (Oi a).Sublist Ω) (hp : pre a) :
    EvNw Γ Ω (tCall sp [] E t) (A a) := fun Z F H σ c Q q =>
  h Z F H σ c _ fun ws F2 H2 c2 s2 rs => hsub _ _ _ _ ⟨a, F2, c2.sub, by rw [List.append_nil]; exact rs, c2.own.sub fun x hx => hs.subset hx, nodup_sub c2.nd hs, hp, fun q0 F3 H3 e3 s3 hq0 ow => q q0 F3 H3 (c2.add e3 s3 ow hq0) (s2.trans e3) (s2.dm _ hq0)⟩
theorem loc_new (c : Ctx Z F H σ Γ Ω) (hro : Z.ro = []) : ∀ x ∈ Ω.map (·.1), x ∈ Z.ft ∨ Z.H x = none := fun x hx => by
  obtain ⟨y, hy, e⟩ := List.mem_map.mp hx
  subst e
  rcases c.loc y hy with l | l | l
  · exact .inl l
  · exact .inr l
  · rw [hro] at l; exact absurd l List.not_mem_nil
/-- arguments of which one is something new, owned -/
def EvAn (Γ : Gm) (Ω : Om) (t : TA) (Rs : Addr → List As) (A : OA) : Prop := ∀ (Z : Bs) (F H : Hp) (σ : L2.St), Ctx Z F H σ Γ Ω → ∀ Q : List V → Hp → Prop, (∀ p vs F' H', Ctx Z F' H' σ Γ ((p, A) :: Ω) → Ext [] F H F' H' → H p = none → All F' (Rs p) vs → Q vs H') → t σ H Q
theorem ean_here {A : OA} {Rs : Addr → List As} (h : EvNw Γ Ω te A) (hr : ∀ p, EvA Γ ((p, A) :: Ω) t (Rs p)) : EvAn Γ Ω (tCons te t) (fun p => Rf p :: Rs p) A := fun Z F H σ c Q q =>
  h Z F H σ c _ fun p F1 H1 c1 s1 hp => hr p Z F1 H1 σ c1 _ fun vs F2 H2 c2 s2 rs => q p _ F2 H2 c2 (s1.trans s2) hp ⟨rfl, rs⟩
theorem ean_tail {A : OA} {Rs : Addr → List As} (h : Ev Γ Ω te R) (hr : EvAn Γ Ω t Rs A) : EvAn Γ Ω (tCons te t) (fun p => R :: Rs p) A := fun Z F H σ c Q q =>
  h Z F H σ c _ fun v F1 H1 c1 s1 rv => hr Z F1 H1 σ c1 _ fun p vs F2 H2 c2 s2 hp rs => q p _ F2 H2 c2 (s1.trans s2) (s1.dm _ hp) ⟨R.mono s2.fe rv, rs⟩
/-- f(.., something new, ..), f reads -/
theorem ev_callRn {α : Type} {args : α → List As} {Oi : α → Om} {pre : α → Prop} {res : α → As} {A : OA} {R : As} (a : Addr → α) (h : EvAn Γ Ω t (fun p => args (a p)) A) (hs : ∀ p, (Oi (a p)).Sublist ((p, A) :: Ω)) (hp : ∀ p, pre (a p)) (hr : ∀ p, res (a p) = R) : Ev Γ Ω (tCall (CtR args Oi pre res) [] E t) R := fun Z F H σ c Q q =>
  h Z F H σ c _ fun p vs F1 H1 c1 s1 hn rs => ⟨a p, F1, c1.sub, by rw [List.append_nil]; exact rs, c1.own.sub fun x hx => (hs p).subset hx, nodup_sub c1.nd (hs p), hp p, fun v F2 H2 e2 s2 r => q v F2 H2 (c1.step e2 s2).tail (s1.trans e2) (by rw [← hr p]; exact r)⟩
theorem cl_GS {α β : Type} {args : α → List As} {Oi : α → Om} {pre : α → Prop} {post : α → β → Prop} {res : α → β → As} {Oo : α → β → Om} {t : TA} {Q : VK} (hsub : ∀ vs H Q E, CtG args Oi pre post res Oo vs H Q E → sp vs H Q E) (a : α) (c : Ctx Z F H σ Γ Ω) (h : EvA Γ Ω t (args a)) (hs : Ω.Perm (Oi a ++ Ωr)) (hp : pre a) (hw : ∀ x ∈ (Oi a).map (·.1), Wr Z x)
    (k : ∀ b v F' H', post a b → Ctx Z F' H' σ Γ (Oo a b ++ Ωr) → Same F F' → (res a b).p F' v → Q v H') : tCall sp [] E t σ H Q :=
  h Z F H σ c _ fun vs F1 H1 c1 s1 rs => by
    have cp := c1.perm hs
    have nd := cp.nd
    rw [List.map_append, List.nodup_append] at nd
    exact hsub _ _ _ _ ⟨a, F1, cp.sub, by rw [List.append_nil]; exact rs, cp.own.sub fun x hx => List.mem_append_left _ hx, nd.1, hp, fun b v F3 H3 hb e3 s3 rv ow nd2 hn => k b v F3 H3 hb (cp.changedG e3 s3 ow nd2 hn hw) (s1.fe.trans e3.fe) rv⟩
theorem wr_all {O : Om} (c : Ctx Z F H σ Γ Ω) (hro : Z.ro = []) (h : O.Sublist Ω) : ∀ x ∈ O.map (·.1), Wr Z x := fun x hx => by
  obtain ⟨⟨q, A⟩, hy, e⟩ := List.mem_map.mp hx
  subst e
  obtain ⟨j, hj⟩ := List.getElem?_of_mem (h.subset hy)
  exact c.wr (j := j) hj hro
theorem st_ifNG {te : TE} {t1 t2 : TS} {D : Ends} (h : te σ H (fun x H1 => ∃ c, x = .bl c ∧ (if (!c) = true then t1 D σ H1 else t2 D σ H1))) : tIfS (tNot (tB te)) t1 t2 D σ H := h
theorem Ctx.subl {Ω' : Om} (c : Ctx Z F H σ Γ Ω) (h : Ω'.Sublist Ω) : Ctx Z F H σ Γ Ω' := ⟨c.sat, c.sub, c.own.sub fun x hx => h.subset hx, nodup_sub c.nd h, fun x hx => c.loc x (h.subset hx), c.ext, c.pin⟩
theorem setX {i : Nat} {n : L2.St → Hp → Prop} {r : VK} {bk ct : L2.St → Hp → Prop} (h : te σ H (fun v H' => n (σ.set i (some v)) H')) : tAsg te (gName i) ⟨n, r, bk, ct⟩ σ H := h
end
/-! ## a method that changes, handed an owned list as if it were frozen -/
def IndO (A : OA) : Prop := ∀ (F : Hp) (p : Addr) (xs : List V) (o : HO), F p = some (.lst xs) → A.p F o → A.p (minus F p) o
theorem ind_allF {F : Hp} {p : Addr} {xs : List V} (hp : F p = some (.lst xs)) : ∀ {fs : List (Str × As)} {vs : List (Str × V)}, (∀ f ∈ fs, Ind0 f.2) → AllF F fs vs → AllF (minus F p) fs vs
  | [], [], _, _ => trivial
  | [], _ :: _, _, h => h.elim
  | _ :: _, [], _, h => h.elim
  | (_, R) :: fs, (_, v) :: vs, hi, h => ⟨h.1, hi _ List.mem_cons_self F p xs v hp h.2.1, ind_allF hp (fun S hS => hi S (List.mem_cons_of_mem _ hS)) h.2.2⟩
theorem ind_allS {F : Hp} {p : Addr} {xs : List V} (hp : F p = some (.lst xs)) : ∀ {fs : List (Str × As)} {vs : List (Key × V)}, (∀ f ∈ fs, Ind0 f.2) → AllS F fs vs → AllS (minus F p) fs vs
  | [], [], _, _ => trivial
  | [], _ :: _, _, h => h.elim
  | _ :: _, [], _, h => h.elim
  | (_, R) :: fs, (_, v) :: vs, hi, h => ⟨h.1, hi _ List.mem_cons_self F p xs v hp h.2.1, ind_allS hp (fun S hS => hi S (List.mem_cons_of_mem _ hS)) h.2.2⟩
theorem indO_I {C dx : Addr} {fs : List (Str × As)} (h : ∀ f ∈ fs, Ind0 f.2) : IndO (oI C dx fs) := fun F p xs o hp ⟨vs, e, a⟩ => ⟨vs, e, ind_allF hp h a⟩
theorem indO_S {l : List (Str × As)} (h : ∀ f ∈ l, Ind0 f.2) : IndO (oS l) := fun F p xs o hp ⟨vs, e, a⟩ => ⟨vs, e, ind_allS hp h a⟩
theorem indO_L {l : List As} (h : ∀ f ∈ l, Ind0 f) : IndO (oL l) := fun F p xs o hp ⟨vs, e, a⟩ => ⟨vs, e, ind_all hp h a⟩
section
variable {Z : Bs} {F H : Hp} {σ : L2.St} {Γ : Gm} {Ω Ωr : Om} {K : PySem.W.Frag} {ta : TE} {t : TA} {sp : Sp} {Rs : List As} {p g C dx : Addr} {m : Str} {fs : List (Str × As)} {j jg : Nat} {E : L2.St → XK}
theorem em_methPk {α : Type} {args : α → List As} {Oi Oo : α → Om} {pre : α → Prop} {res : α → As} (hsub : ∀ vs H Q E, CtM args Oi pre res Oo vs H Q E → sp vs H Q E) (a : α) (ho : Ev Γ Ω ta (Rf p)) (hm : Ω[j]? = some (p, oI C dx fs)) (hn : fs.lookup m = none) (h : EvA Γ Ω t [Rf g]) (ha : args a = [Rf p, Ls K Rs]) (hs : Ω.Perm (Oi a ++ (g, oL Rs) :: Ωr)) (hp : pre a)
    (hoo : (Oo a).map (·.1) = (Oi a).map (·.1)) (hi : Ind0 (res a)) (hio : ∀ x ∈ Oo a, IndO x.2) (hw : ∀ x ∈ (Oi a).map (·.1), Wr Z x) : EvM Z Γ Ω (tMethX C m sp E ta t) (res a) (Oo a ++ (g, oL Rs) :: Ωr) := fun F H σ c Q k =>
  ho Z F H σ c _ fun x F1 H1 c1 s1 rx => by
    cases rx
    obtain ⟨_, o, h2, vs, eo, hf⟩ := c1.own _ (List.mem_of_getElem? hm)
    subst eo
    refine ⟨p, dx, vs, rfl, h2, hf.none hn, h Z F1 H1 σ c1 _ fun ws F2 H2 c2 s2 rs => hsub _ _ _ _ ?_⟩
    have cp := c2.perm hs
    have nd := cp.nd
    rw [List.map_append, List.nodup_append] at nd
    obtain ⟨g1, ob, g2, xs, eo, hx⟩ := cp.own (g, oL Rs) (List.mem_append_right _ List.mem_cons_self)
    subst eo
    dsimp only at g1 g2
    have hng : ∀ y ∈ Oi a, y.1 ≠ g := fun y hy z => nd.2.2 _ (List.mem_map_of_mem hy) g (List.mem_map_of_mem (f := (·.1)) (List.mem_cons_self (a := (g, oL Rs)) (l := Ωr))) z
    have ss : Same F2 (upd F2 g (.lst xs)) := fun b u z => by rw [upd_ne (ne_of_none z g1)]; exact z
    have sH : Same (upd F2 g (.lst xs)) H2 := fun b u z => by
      by_cases e : b = g
      · rw [e] at z ⊢; rw [upd_same] at z; rw [← z]; exact g2
      · rw [upd_ne e] at z; exact cp.sub b u z
    have ew : ws = [.ref g] := by
      match ws, rs with
      | [w], hr => obtain ⟨z, _⟩ := hr; rw [show w = V.ref g from z]
      | [], hr => exact hr.elim
      | _ :: _ :: _, hr => exact hr.2.elim
    subst ew
    refine ⟨a, upd F2 g (.lst xs), sH, by rw [ha]; exact ⟨rfl, ⟨g, xs, rfl, SqL.of upd_same, hx.mono ss⟩, trivial⟩, fun y hy => ?_, nd.1, hp, fun v F3 H3 e3 s3 rv ow => ?_⟩
    · obtain ⟨k1, o', k2, k3⟩ := cp.own y (List.mem_append_left _ hy)
      exact ⟨by rw [upd_ne (hng y hy)]; exact k1, o', k2, y.2.mono ss k3⟩
    · have hFp : F3 g = some (.lst xs) := e3.fe g _ upd_same
      have e4 : Ext ((Oi a).map (·.1)) F2 H2 (minus F3 g) H3 := ⟨fun b u z => minus_get (e3.fe b u (ss b u z)) (ne_of_none z g1), e3.fr, e3.dm, fun b hne hF => by
        unfold minus
        by_cases w : b = g
        · rw [if_pos w]
        · rw [if_neg w]
          exact e3.nw b hne (by rw [upd_ne w]; exact hF)⟩
      have s4 : Same (minus F3 g) H3 := fun b u z => by
        unfold minus at z
        by_cases w : b = g
        · rw [if_pos w] at z; cases z
        · rw [if_neg w] at z; exact s3 b u z
      have ow4 : Own (minus F3 g) H3 (Oo a) := fun y hy => by
        obtain ⟨k1, o', k2, k3⟩ := ow y hy
        refine ⟨?_, o', k2, hio y hy F3 g xs o' hFp k3⟩
        unfold minus
        split
        · rfl
        · exact k1
      exact k v _ H3 (cp.changedG e4 s4 ow4 (by rw [hoo]; exact nd.1) (fun x hx => .inl (by rw [← hoo]; exact hx)) hw) ((s1.trans s2).fe.trans e4.fe) (hi F3 g xs v hFp rv)
/-- something new put into a slot: that it is new is told -/
theorem st_setOn {te : TE} {n : L2.St → Hp → Prop} {r : VK} {bk ct : L2.St → Hp → Prop} {A : OA} {i : Nat} (c : Ctx Z F H σ Γ Ω) (e : EvNw Γ Ω te A) (k : ∀ p F' H' σ', Ctx Z F' H' σ' (Γ.set i (some (Rf p))) ((p, A) :: Ω) → Same F F' → Z.H p = none → n σ' H') : tAsg te (gName i) ⟨n, r, bk, ct⟩ σ H :=
  e Z F H σ c _ fun p F1 H1 c1 s1 hn => k p F1 H1 _ (c1.set i rfl) s1.fe (c.ext.dm _ hn)
end
end Y

namespace Y
open PySem L2 PySem.Spec
open PyProof.Rows (envOfC)
/-! ## dicts of data compared, alike -/
section
variable {X : Cx} {pins : List (Addr × Obj)} {σ : L2.St} {H : Hp} {s : Shared}
theorem hits_data (I : L2.Inv X pins σ H s) {A : Around} (hu : A.in1.units + 64 < cLine) {kvs : List (Key × V)} {vb : List (Key × Value)} (rb : KV kvs vb) {ks : List (Key × V)} {va : List (Key × Value)} (ra : KV ks va) :
    (∀ p ∈ ks, ∃ u d, valV kvs p.1 = some u ∧ Dp X.K H p.2 d ∧ Dp X.K H u d ∧ SeqAt.shaped d = true ∧ PyData.eqv d d = true) → PySem.W.KeqHits A.in1 s vb va true := by
  unfold KV at ra
  induction ra with
  | nil => intro _; exact .nil
  | @cons p q ps qs h t ih =>
    intro hp
    obtain ⟨h1, h2⟩ := h
    obtain ⟨u, d, e, d1, d2, sh, eq⟩ := hp p List.mem_cons_self
    have rr : RelO (some u) (valueAt vb p.1) := by rw [← e]; exact rb.val p.1
    obtain ⟨y, hy, ry⟩ := rr.some_of
    obtain ⟨k, v⟩ := q
    have h1' : p.1 = k := h1
    rw [h1'] at hy
    obtain ⟨as, r1⟩ := Dp.reads I d _ _ d1 h2
    obtain ⟨bs, r2⟩ := Dp.reads I d _ _ d2 ry
    have z := PySem.W.keq_at (A := A) r1 r2 sh sh hu
    rw [eq] at z
    show PySem.W.KeqHits A.in1 s vb ((k, v) :: qs) (true && true)
    exact .hit hy z (ih fun p' hm => hp p' (List.mem_cons_of_mem _ hm))
end
def rDV (K : PySem.W.Frag) (r : Bool) : R2 := fun x y H Q => ∃ a b ks ls, x = .ref a ∧ y = .ref b ∧ H a = some (.dK ks) ∧ H b = some (.dK ls) ∧ ks.length = ls.length ∧ (∀ p ∈ ks, ∃ u d, valV ls p.1 = some u ∧ Dp K H p.2 d ∧ Dp K H u d ∧ SeqAt.shaped d = true ∧ PyData.eqv d d = true) ∧ Q (.bl r) H
section
variable {X : Cx}
theorem op_eq_dictD (hu : X.A.units + 65 < cLine) : OpR X (compareOp .Eq) (rDV X.K true) := by
  intro pins s σ H x y v u Q I rx ry h
  obtain ⟨a, b, ks, ls, rfl, rfl, ea, eb, hlen, hp, q⟩ := h
  obtain rfl : v = Value.ref a := rx
  obtain rfl : u = Value.ref b := ry
  obtain ⟨_, ya, va, ra, da⟩ := (show ObjOk X.prog X.w H s.heap a (.dK ks) from I.hok a _ ea)
  obtain ⟨_, yb, vb, rb, db⟩ := (show ObjOk X.prog X.w H s.heap b (.dK ls) from I.hok b _ eb)
  have hl : va.length = vb.length := by rw [← ra.length, ← rb.length]; exact hlen
  exact PySem.W.keq_eq (knd := mixKind X.prog X.w) (r := true) ya yb da db (by omega) (fun _ => hits_data I (A := X.A) (by show X.A.units + 1 + 64 < cLine; omega) rb ra hp) (fin_bl I q (by simp [hl]))
theorem op_ne_dictD (hu : X.A.units + 65 < cLine) : OpR X (compareOp .NotEq) (rDV X.K false) := by
  intro pins s σ H x y v u Q I rx ry h
  obtain ⟨a, b, ks, ls, rfl, rfl, ea, eb, hlen, hp, q⟩ := h
  obtain rfl : v = Value.ref a := rx
  obtain rfl : u = Value.ref b := ry
  obtain ⟨_, ya, va, ra, da⟩ := (show ObjOk X.prog X.w H s.heap a (.dK ks) from I.hok a _ ea)
  obtain ⟨_, yb, vb, rb, db⟩ := (show ObjOk X.prog X.w H s.heap b (.dK ls) from I.hok b _ eb)
  have hl : va.length = vb.length := by rw [← ra.length, ← rb.length]; exact hlen
  exact PySem.W.keq_ne (knd := mixKind X.prog X.w) (r := true) ya yb da db (by omega) (fun _ => hits_data I (A := X.A) (by show X.A.units + 1 + 64 < cLine; omega) rb ra hp) (fin_bl I q (by simp [hl]))
end
section
variable {Γ : Gm} {Ω : Om} {K : PySem.W.Frag} {ta tb : TE} {p1 p2 : Addr} {j1 j2 : Nat}
theorem ev_DV {β : Type} {f : β → As} {dd : β → PyData} {k : Nat} {r : Bool} (hk : Kd K f dd k) {l1 l2 : List (Str × β)} (h1 : Ev Γ Ω ta (Rf p1)) (m1 : Ω[j1]? = some (p1, oS (l1.map fun x => (x.1, f x.2)))) (h2 : Ev Γ Ω tb (Rf p2)) (m2 : Ω[j2]? = some (p2, oS (l2.map fun x => (x.1, f x.2)))) (hl : l1.length = l2.length) (hh : ∀ x ∈ l1, getS x.1 l2 = some x.2) (l : k ≤ 64 := by decide) : Ev Γ Ω (tOp (rDV K r) ta tb) (B r) := fun Z F H σ c Q q =>
  h1 Z F H σ c _ fun v F1 H1 c1 s1 rv => h2 Z F1 H1 σ c1 _ fun w F2 H2 c2 s2 rw' => by
    cases rv
    cases rw'
    obtain ⟨_, o, e1, k1, eo1, a1⟩ := c2.own _ (List.mem_of_getElem? m1)
    obtain ⟨_, o', e2, k2, eo2, a2⟩ := c2.own _ (List.mem_of_getElem? m2)
    subst eo1 eo2
    refine ⟨p1, p2, _, _, rfl, rfl, e1, e2, by rw [a1.length, a2.length, List.length_map, List.length_map, hl], fun y hy => ?_, q _ F2 H2 c2 (s1.trans s2) rfl⟩
    obtain ⟨i, hi⟩ := List.getElem?_of_mem hy
    have hlt : i < l1.length := by
      have z := (List.getElem?_eq_some_iff.mp hi).1
      rw [a1.length, List.length_map] at z; exact z
    obtain ⟨v', hv', hp'⟩ := a1.at (i := i) (x := ((l1[i]).1, f (l1[i]).2)) (by rw [List.getElem?_map, List.getElem?_eq_getElem hlt]; rfl)
    have ey : y = (Sum.inr (l1[i]).1, v') := by rw [hi] at hv'; exact Option.some.inj hv'
    subst ey
    have hg : getS (l1[i]).1 (l2.map fun x => (x.1, f x.2)) = some (f (l1[i]).2) := by
      have z := getS_map (g := f) (l1[i]).1 l2
      rw [hh _ (List.getElem_mem hlt)] at z
      exact z
    obtain ⟨u, hu, hpu⟩ := (a2.get (k := (l1[i]).1)).1 _ hg
    exact ⟨u, dd (l1[i]).2, hu, (hk.is _).dp F2 H2 _ c2.sub hp', (hk.is _).dp F2 H2 _ c2.sub hpu, (hk.gd _).shaped l, (hk.eq _ _).mpr rfl⟩
end
end Y

namespace Y
open PySem L2 PySem.Spec
open PyProof.Rows (envOfC)
/-! ## dicts whose keys are pairs of texts -/
def tk (k : Str × Str) : List Key := [.inr k.1, .inr k.2]
theorem tk_inj {i k : Str × Str} (h : tk i = tk k) : i = k := by
  obtain ⟨a, b⟩ := i
  obtain ⟨x, y⟩ := k
  unfold tk at h
  simp at h
  obtain ⟨h1, h2⟩ := h
  rw [h1, h2]
def tkV (k : Str × Str) : List V := [.str k.1, .str k.2]
theorem tk_map {k : Str × Str} : (tk k).map kV = tkV k := rfl
def AllT (F : Hp) : List ((Str × Str) × As) → List (List Key × V) → Prop
  | [], [] => True
  | (k, R) :: l, (q, v) :: kvs => q = tk k ∧ R.p F v ∧ AllT F l kvs
  | _, _ => False
theorem AllT.mono {F F' : Hp} (s : Same F F') : ∀ {l : List ((Str × Str) × As)} {kvs : List (List Key × V)}, AllT F l kvs → AllT F' l kvs
  | [], [], _ => trivial
  | (k, R) :: l, (q, v) :: kvs, h => ⟨h.1, R.mono s h.2.1, AllT.mono s h.2.2⟩
  | [], _ :: _, h => h.elim
  | _ :: _, [], h => h.elim
theorem AllT.length {F : Hp} : ∀ {l : List ((Str × Str) × As)} {kvs : List (List Key × V)}, AllT F l kvs → kvs.length = l.length
  | [], [], _ => rfl
  | (k, R) :: l, (q, v) :: kvs, h => congrArg (· + 1) (AllT.length h.2.2)
  | [], _ :: _, h => h.elim
  | _ :: _, [], h => h.elim
/-- what stands at k -/
def getT {β : Type} (k : Str × Str) : List ((Str × Str) × β) → Option β
  | [] => none
  | (i, y) :: l => if i = k then some y else getT k l
def hasT {β : Type} (k : Str × Str) : List ((Str × Str) × β) → Bool
  | [] => false
  | (i, _) :: l => decide (i = k) || hasT k l
def putT {β : Type} (l : List ((Str × Str) × β)) (k : Str × Str) (y : β) : List ((Str × Str) × β) := if hasT k l then l.map fun p => if p.1 = k then (p.1, y) else p else l ++ [(k, y)]
theorem getT_map {β γ : Type} {g : β → γ} (k : Str × Str) : ∀ l : List ((Str × Str) × β), getT k (l.map fun p => (p.1, g p.2)) = (getT k l).map g
  | [] => rfl
  | (i, y) :: l => by
    show (if i = k then some (g y) else getT k (l.map fun p => (p.1, g p.2))) = (if i = k then some y else getT k l).map g
    split
    · rfl
    · exact getT_map k l
theorem hasT_map {β γ : Type} {g : β → γ} (k : Str × Str) : ∀ l : List ((Str × Str) × β), hasT k (l.map fun p => (p.1, g p.2)) = hasT k l
  | [] => rfl
  | (i, y) :: l => by
    show (decide (i = k) || hasT k (l.map fun p => (p.1, g p.2))) = (decide (i = k) || hasT k l)
    rw [hasT_map k l]
theorem putT_map {β γ : Type} {g : β → γ} {k : Str × Str} {y : β} {l : List ((Str × Str) × β)} : putT (l.map fun p => (p.1, g p.2)) k (g y) = (putT l k y).map fun p => (p.1, g p.2) := by
  unfold putT
  rw [hasT_map]
  split
  · rw [List.map_map, List.map_map]
    refine List.map_congr_left fun p _ => ?_
    simp only [Function.comp]
    split <;> rfl
  · rw [List.map_append]; rfl
theorem hasT_get {β : Type} (k : Str × Str) : ∀ l : List ((Str × Str) × β), hasT k l = (getT k l).isSome
  | [] => rfl
  | (i, y) :: l => by
    show (decide (i = k) || hasT k l) = (if i = k then some y else getT k l).isSome
    by_cases h : i = k
    · rw [if_pos h, decide_eq_true h]; rfl
    · rw [if_neg h, decide_eq_false h, hasT_get k l]; rfl
theorem getT_put {β : Type} {k j : Str × Str} {y : β} : ∀ {l : List ((Str × Str) × β)}, getT j (putT l k y) = if j = k then some y else getT j l := fun {l} => by
  have h1 : ∀ l : List ((Str × Str) × β), getT j (l.map fun p => if p.1 = k then (p.1, y) else p) = if j = k then (getT j l).map (fun _ => y) else getT j l := fun l => by
    induction l with
    | nil => simp [getT]
    | cons p l ih =>
      obtain ⟨i, z⟩ := p
      rw [List.map_cons]
      by_cases h : i = k
      · rw [if_pos h]
        show (if i = j then some y else getT j _) = _
        rw [ih]
        by_cases hj : j = k
        · rw [if_pos hj, if_pos hj, if_pos (h.trans hj.symm)]
          show some y = (if i = j then some z else getT j l).map _
          rw [if_pos (h.trans hj.symm)]; rfl
        · have hij : ¬ i = j := fun e => hj (e.symm.trans h)
          rw [if_neg hj, if_neg hj, if_neg hij]
          show getT j l = if i = j then some z else getT j l
          rw [if_neg hij]
      · rw [if_neg h]
        show (if i = j then some z else getT j _) = _
        rw [ih]
        by_cases hj : j = k
        · have hij : ¬ i = j := fun e => h (e.trans hj)
          rw [if_neg hij, if_pos hj, if_pos hj]
          show _ = (if i = j then some z else getT j l).map _
          rw [if_neg hij]
        · rw [if_neg hj, if_neg hj]
          show _ = if i = j then some z else getT j l
          rfl
  have h2 : ∀ l : List ((Str × Str) × β), getT j (l ++ [(k, y)]) = (getT j l).or (if k = j then some y else none) := fun l => by
    induction l with
    | nil => rfl
    | cons p l ih =>
      obtain ⟨i, z⟩ := p
      show (if i = j then some z else getT j (l ++ [(k, y)])) = (if i = j then some z else getT j l).or _
      split
      · rfl
      · exact ih
  unfold putT
  split
  · rename_i h
    rw [h1]
    split
    · rename_i e
      subst e
      rw [hasT_get] at h
      cases z : getT j l with
      | none => rw [z] at h; cases h
      | some x => rfl
    · rfl
  · rename_i h
    rw [h2]
    by_cases e : j = k
    · subst e
      have hn : getT j l = none := by
        rw [hasT_get] at h
        cases z : getT j l with
        | none => rfl
        | some x => rw [z] at h; exact absurd rfl h
      rw [hn]; simp
    · rw [if_neg (fun z => e z.symm), if_neg e, Option.or_none]
theorem AllT.get {F : Hp} {k : Str × Str} : ∀ {l : List ((Str × Str) × As)} {kvs : List (List Key × V)}, AllT F l kvs → (∀ R, getT k l = some R → ∃ v, valV kvs (tk k) = some v ∧ R.p F v) ∧ (getT k l = none → valV kvs (tk k) = none)
  | [], [], _ => ⟨fun R h => (by cases h), fun _ => rfl⟩
  | (i, R0) :: l, (q, v) :: kvs, ⟨h1, h2, h3⟩ => by
    obtain ⟨g1, g2⟩ := AllT.get (k := k) h3
    subst h1
    by_cases e : i = k
    · subst e
      rw [valV_pos rfl]
      have e2 : getT i ((i, R0) :: l) = some R0 := if_pos rfl
      rw [e2]
      exact ⟨fun R h => by cases h; exact ⟨v, rfl, h2⟩, fun h => by cases h⟩
    · rw [valV_neg (fun z => e (tk_inj z))]
      have e2 : getT k ((i, R0) :: l) = getT k l := if_neg e
      rw [e2]
      exact ⟨g1, g2⟩
  | [], _ :: _, h => h.elim
  | _ :: _, [], h => h.elim
theorem AllT.has {F : Hp} {k : Str × Str} : ∀ {l : List ((Str × Str) × As)} {kvs : List (List Key × V)}, AllT F l kvs → (kvs.any fun kv => decide (kv.1 = tk k)) = hasT k l
  | [], [], _ => rfl
  | (i, R0) :: l, (q, v) :: kvs, ⟨h1, h2, h3⟩ => by
    subst h1
    show (decide (tk i = tk k) || kvs.any _) = (decide (i = k) || hasT k l)
    rw [AllT.has h3]
    congr 1
    exact decide_eq_decide.mpr ⟨fun z => tk_inj z, fun z => by rw [z]⟩
  | [], _ :: _, h => h.elim
  | _ :: _, [], h => h.elim
theorem AllT.put {F : Hp} {k : Str × Str} {R : As} {v : V} (q : R.p F v) {l : List ((Str × Str) × As)} {kvs : List (List Key × V)} (h : AllT F l kvs) : AllT F (putT l k R) (putK kvs (tk k) v) := by
  have h1 : ∀ {l : List ((Str × Str) × As)} {kvs : List (List Key × V)}, AllT F l kvs → AllT F (l.map fun p => if p.1 = k then (p.1, R) else p) (kvs.map fun kv => if kv.1 = tk k then (kv.1, v) else kv) := fun {l} => by
    induction l with
    | nil =>
      intro kvs h
      cases kvs with
      | nil => exact trivial
      | cons _ _ => exact h.elim
    | cons p l ih =>
      intro kvs h
      cases kvs with
      | nil => exact h.elim
      | cons kv kvs =>
        obtain ⟨i, R0⟩ := p
        obtain ⟨a, w⟩ := kv
        obtain ⟨a1, a2, a3⟩ := h
        subst a1
        rw [List.map_cons, List.map_cons]
        by_cases e : i = k
        · rw [if_pos e, if_pos (by rw [e])]
          exact ⟨rfl, q, ih a3⟩
        · rw [if_neg e, if_neg (fun z => e (tk_inj z))]
          exact ⟨rfl, a2, ih a3⟩
  have h2 : ∀ {l : List ((Str × Str) × As)} {kvs : List (List Key × V)}, AllT F l kvs → AllT F (l ++ [(k, R)]) (kvs ++ [(tk k, v)]) := fun {l} => by
    induction l with
    | nil =>
      intro kvs h
      cases kvs with
      | nil => exact ⟨rfl, q, trivial⟩
      | cons _ _ => exact h.elim
    | cons p l ih =>
      intro kvs h
      cases kvs with
      | nil => exact h.elim
      | cons kv kvs => exact ⟨h.1, h.2.1, ih h.2.2⟩
  unfold putT putK
  rw [h.has]
  split
  · exact h1 h
  · exact h2 h
theorem len_putT {β : Type} (l : List ((Str × Str) × β)) (k : Str × Str) (y : β) : (putT l k y).length ≤ l.length + 1 := by
  unfold putT
  split
  · rw [List.length_map]; omega
  · rw [List.length_append]; exact Nat.le_refl _
theorem AllT.at {F : Hp} : ∀ {l : List ((Str × Str) × As)} {kvs : List (List Key × V)} {i : Nat} {x : (Str × Str) × As}, AllT F l kvs → l[i]? = some x → ∃ v, kvs[i]? = some (tk x.1, v) ∧ x.2.p F v
  | [], [], i, x, _, e => by simp at e
  | (a, R) :: l, (q, v) :: kvs, 0, x, ⟨h1, h2, h3⟩, e => by
    have e' : (a, R) = x := Option.some.inj e
    subst e'
    subst h1
    exact ⟨v, rfl, h2⟩
  | (a, R) :: l, (q, v) :: kvs, i + 1, x, ⟨h1, h2, h3⟩, e => AllT.at (i := i) h3 (by simpa using e)
  | [], _ :: _, _, _, h, _ => h.elim
  | _ :: _, [], _, _, h, _ => h.elim
/-! ### the walk over the pairs -/
def ItiT (d : Addr) (o : Obj) (kvs : List (List Key × V)) : It :=
  ⟨fun i H => H d = some (.frz o (.dT kvs)) ∧ i < kvs.length, fun i H x H' => ∃ T k v q, kvs[i]? = some (k, v) ∧ H q = some (.tup (k.map kV)) ∧ x = .ref T ∧ H T = none ∧ H' = upd H T (.tup [.ref q, v]), fun i H => H d = some (.frz o (.dT kvs)) ∧ kvs.length ≤ i⟩
section
variable {X : Cx} {pins : List (Addr × Obj)} {σ : L2.St} {H : Hp} {s : Shared} {d : Addr} {o : Obj}
theorem frzT2 {kvs : List (List Key × V)} (I : L2.Inv X pins σ H s) (h : H d = some (.frz o (.dT kvs))) :
    (d == sysModules) = false ∧ s.heap.get? d = some o ∧ o.ExactDict ∧ ∃ (es : Array DictEntry) (ep : Nat), o.data = .dict es ep ∧ es.size = kvs.length ∧
      ∀ (i : Nat) (k : List Key) (v : V), kvs[i]? = some (k, v) → ∃ (en : DictEntry) (q : Addr), es[i]? = some en ∧ en.key = .ref q ∧ H q = some (.tup (k.map kV)) ∧ RelV v en.val := by
  obtain ⟨hd, z, hs, xs, pr, o', es, ep, ho, hx, hdt, he, _⟩ := I.hok d _ h
  rw [hd] at ho
  cases ho
  refine ⟨hs, hd, hx, es, ep, hdt, ?_, fun i k v e => ?_⟩
  · have l1 : es.size = xs.length := size_of_entries he
    have l2 : kvs.length = xs.length := Paired.length pr
    omega
  · obtain ⟨b, hb, e1, e2, e3⟩ := L2.paired_get pr e
    have q := entry_at he i
    rw [hb] at q
    exact ⟨_, b.2.1, q, rfl, e2, e3⟩
end
theorem turn_itemsT {P : Program} {w : World} {K : PySem.W.Frag} {d : Addr} {o : Obj} {es : Array DictEntry} {ep : Nat} {kvs : List (List Key × V)} {elts : List Expr} {kk : Nat} {tpos : Pos} (it : Addr) (hod : o.data = .dict es ep) :
    L2.Turn P w K (.Tuple elts kk tpos) (ItiT d o kvs) [it] it (fun i h => ∃ ok ov, IsItemIter h it d i kvs.length ep ok ov) where
  mem := by simp
  obj := fun i h st b hb => by
    have e : b = it := by simpa using hb
    subst e
    obtain ⟨ok, ov, e⟩ := st
    exact ⟨_, e, fun v z => nomatch z⟩
  keep := fun i h h' st k => let ⟨ok, ov, e⟩ := st; ⟨ok, ov, k it (by simp) _ e⟩
  item := by
    intro X hP hw hK hc i pins s σ H E I hf st hg
    subst hP hw hK
    obtain ⟨hd, hi⟩ := hg
    obtain ⟨hs, hgd, hx, es', ep', hdt, hsz, hen⟩ := frzT2 I hd
    obtain ⟨e1, e2⟩ := L2.dict_ep hod hdt
    obtain rfl : es = es' := e1.symm
    obtain rfl : ep = ep' := e2.symm
    obtain ⟨⟨k, v⟩, hkv⟩ : ∃ p, kvs[i]? = some p := ⟨kvs[i], List.getElem?_eq_getElem hi⟩
    obtain ⟨en, q, h1, h2, h3, h4⟩ := hen i k v hkv
    obtain ⟨ok, ov, he⟩ := st
    rw [← hsz] at he
    have hlt : it < s.heap.objs.size := Heap.lt_size he
    have hi2 : i < es.size := by omega
    have hek : es[i] = en := by
      rw [Array.getElem?_eq_getElem hi2] at h1
      exact Option.some.inj h1
    refine DT.nextI he ⟨o, hgd, hx, hdt⟩ hi2 fun h' ho hT hz hk => ?_
    refine ⟨_, rfl, wpAny_letOwnedTupleGo_items (s := { s with heap := h' }) ho fun h'' he' sb => ?_⟩
    have hT2 : h''.get? s.heap.objs.size = some { cls := .type "tuple", data := .seq #[es[i].key, es[i].val] } := (sb.2 _ (Nat.ne_of_gt hlt)).trans hT
    rw [hek, h2] at hT2
    have new : ObjOk X.prog X.w (upd H s.heap.objs.size (.tup [.ref q, v])) h'' s.heap.objs.size (.tup [.ref q, v]) :=
      ⟨by show 2 ≤ sizeLine; decide, [.ref q, en.val], .cons rfl (.cons h4 .nil), ⟨_, hT2, rfl, _, rfl⟩⟩
    have I1 : L2.Inv X pins σ (upd H s.heap.objs.size (.tup [.ref q, v])) { s with heap := h'' } :=
      I.turnedNew (t' := s.toks) (ch := [it]) (fun b ob hb e => (sb.2 b (by simpa using hb)).trans (hk b ob (by simpa using hb) e)) hf (Nat.le_refl _) new
    refine ⟨.ref s.heap.objs.size, _, I1, rfl, ⟨_, k, v, q, hkv, h3, rfl, I.hok.fresh (Nat.le_refl _), rfl⟩, ⟨es[i].key, es[i].val, ?_⟩, fun b hb => ?_⟩
    · rw [← hsz]; exact he'
    · have e : b = it := by simpa using hb
      rw [e, upd_ne (Nat.ne_of_lt hlt)]
      exact (hf it (by simp)).1
  done := by
    intro X hP hw hK hc i pins s σ H E I hf st hg
    subst hP hw hK
    obtain ⟨hd, hi⟩ := hg
    obtain ⟨f0, f1, f2, f3, f4, f5⟩ := hf it (by simp)
    obtain ⟨hs, hgd, hx, es', ep', hdt, hsz, hen⟩ := frzT2 I hd
    obtain ⟨e1, e2⟩ := L2.dict_ep hod hdt
    obtain rfl : es = es' := e1.symm
    obtain rfl : ep = ep' := e2.symm
    obtain ⟨ok, ov, he⟩ := st
    rw [← hsz] at he
    exact DT.endI (I.ok.hd hc) he ⟨o, hgd, hx, hdt⟩ (by omega) fun h' eb => ⟨rfl, I.turned (t' := s.toks) (fun b ob hb e => eb b ob hb e) f0 f1 f3 f4 f5⟩
  self := fun A i s Q E st h => let ⟨_, _, e⟩ := st; PySem.W.kcp_self e h
def iItemsT (td : TE) : TI := fun σ H R => td σ H fun x H1 => ∃ d o kvs, x = .ref d ∧ H1 d = some (.frz o (.dT kvs)) ∧ R (ItiT d o kvs) H1
theorem pi_itemsT {X : Cx} {td : TE} {e : Expr} {apos cpos : Pos} {elts : List Expr} {kk : Nat} {tpos : Pos} (he : L2.PE X e td) (hbase : attributeBase e "items" X.env (eval e X.env) = eval e X.env := by rfl) (hline : (apos.endLine == cpos.line) = true := by rfl) :
    L2.PI X (.Tuple elts kk tpos) (.Call (.Attribute e "items" apos) [] [] cpos) (iItemsT td) := by
  refine ⟨fun pins s σ H R I h => ?_⟩
  refine wpAny_Call_method (T := "dict") (id := "dict.items") hbase rfl hline F.plainAttrs_dict F.slot_dict_items F.type_dict_items (thn (he.run pins s σ H _ I h) fun u s1 ⟨x, H1, I1, rx, d, o, kvs, ex, hd, q⟩ => ?_)
  subst ex
  obtain rfl : u = Value.ref d := rx
  obtain ⟨hs, hgd, hx, es, ep, hdt, hsz, hen⟩ := frzT2 I1 hd
  have raw : DT.Raw s1.heap d es ep := ⟨o, hgd, hx, hdt⟩
  refine ⟨raw.typeIs, fun a e => (by cases e; exact ⟨o, hgd, hx.2.1⟩), ?_⟩
  have I2 : L2.Inv X pins σ H1 { s1 with heap := s1.heap.push { cls := .type "dict_items", data := .fields #[.ref d] } } := I1.kept (t' := s1.toks) fun b ob q => Heap.get?_push_of_some _ q
  have fin : wpAny (model X.prog X.w) X.A (pyIter (.ref s1.heap.objs.size)) (L2.PIE X pins σ (.Tuple elts kk tpos) R) X.xe { s1 with heap := s1.heap.push { cls := .type "dict_items", data := .fields #[.ref d] } } := by
    refine DT.iterI (d := d) (es := es) (ep := ep) ⟨_, Heap.get?_push_size _ rfl, rfl, rfl⟩ (raw.push _) (L2.pi_one (tk := s1.toks) I2 _ (turn_itemsT _ hdt) ⟨.none, .none, ?_⟩ q)
    rw [← hsz]
    exact Heap.get?_push_size _ rfl
  show wpAny _ _ (callWith cpos (.builtin "dict.items") [.ref d] [] []) _ X.xe s1
  exact method_meetsIn F.slot_dict_items F.entry_dict_items rfl (PySem.evalArgs_none ⟨rfl, raw.typeIs, F.args_dict_items_1 _, _, DT.meetsItems (es := es) (ep := ep) hs, ⟨raw, fin⟩⟩)
/-! ### what is owned: such a dict, open and locked; a key that an entry holds -/
def oT (l : List ((Str × Str) × As)) : OA := ⟨fun F o => ∃ kvs, o = .dT kvs ∧ AllT F l kvs, fun s h => by
  obtain ⟨kvs, e, q⟩ := h; exact ⟨kvs, e, q.mono s⟩⟩
def oTk (od : Obj) (kvs : List (List Key × V)) (l : List ((Str × Str) × As)) : OA := ⟨fun F o => o = .frz od (.dT kvs) ∧ AllT F l kvs, fun s h => ⟨h.1, h.2.mono s⟩⟩
structure RdT (A : OA) (l : List ((Str × Str) × As)) : Prop where
  rd : ∀ F o, A.p F o → ∃ kvs, (o = .dT kvs ∨ ∃ od, o = .frz od (.dT kvs)) ∧ AllT F l kvs
theorem rdT {l : List ((Str × Str) × As)} : RdT (oT l) l := ⟨fun F o ⟨kvs, e, h⟩ => ⟨kvs, .inl e, h⟩⟩
theorem rdTk {l : List ((Str × Str) × As)} {od : Obj} {kvs : List (List Key × V)} : RdT (oTk od kvs l) l := ⟨fun F o ⟨e, h⟩ => ⟨kvs, .inr ⟨od, e⟩, h⟩⟩
def oKt (k : Str × Str) : OA := ⟨fun _ o => o = .tup (tkV k), fun _ h => h⟩
/-- a tuple of two texts that stands frozen -/
def Kt (k : Str × Str) : As := ⟨fun F v => ∃ q, v = .ref q ∧ F q = some (.tup (tkV k)), fun s h => by
  obtain ⟨q, e, h⟩ := h; exact ⟨q, e, s _ _ h⟩⟩
section
variable {Z : Bs} {F H F' H' : Hp} {σ σ' : L2.St} {Γ Γ' : Gm} {Ω Ω' Ωr : Om} {K : PySem.W.Frag} {te ta tb tl tk' tx : TE} {tt : TT} {R Rx Ry : As} {Rs Ss : List As} {n : L2.St → Hp → Prop} {r : VK} {bk ct : L2.St → Hp → Prop} {p d : Addr} {l : List ((Str × Str) × As)} {f m : Str} {j : Nat} {E : XK} {A A2 : OA} {k : Str × Str}
/-- a reading that gives a tuple of two texts -/
def KeyT (Γ : Gm) (Ω : Om) (te : TE) (k : Str × Str) : Prop := ∀ (Z : Bs) (F H : Hp) (σ : L2.St), Ctx Z F H σ Γ Ω → ∀ Q : VK, (∀ q F' H', Ctx Z F' H' σ Γ Ω → Ext [] F H F' H' → (∀ F2 H2, Ctx Z F2 H2 σ Γ Ω → Same F' F2 → H2 q = some (.tup (tkV k))) → Q (.ref q) H') → te σ H Q
theorem key_kt (h : Ev Γ Ω te (Kt k)) : KeyT Γ Ω te k := fun Z F H σ c Q q => h Z F H σ c Q fun v F1 H1 c1 s1 rv => by
  obtain ⟨b, e, hb⟩ := rv
  subst e
  exact q b F1 H1 c1 s1 fun F2 H2 c2 s2 => c2.sub _ _ (s2 _ _ hb)
theorem key_own (h : Ev Γ Ω te (Rf p)) (hm : (p, oKt k) ∈ Ω) : KeyT Γ Ω te k := fun Z F H σ c Q q => h Z F H σ c Q fun v F1 H1 c1 s1 rv => by
  cases rv
  refine q p F1 H1 c1 s1 fun F2 H2 c2 s2 => ?_
  obtain ⟨_, o, h2, ho⟩ := c2.own _ hm
  have ho : o = .tup (tkV k) := ho
  rw [← ho]; exact h2
/-- (a, b) -/
theorem ev_ktup (ha : Ev Γ Ω ta (S k.1)) (hb : Ev Γ Ω tb (S k.2)) : Ev Γ Ω (tTup (tCons ta (tCons tb tNil))) (Kt k) := fun Z F H σ c Q q =>
  (ea_cons ha (ea_cons hb ea_nil)) Z F H σ c _ fun vs F1 H1 c1 s1 rs => ⟨by rw [rs.length]; exact Nat.le_of_lt (small1000 (show 2 ≤ 1000 by decide)), fun p hp => by
    obtain ⟨e, s⟩ := Ext.new (o := .tup vs) c1.sub hp
    have ev : vs = tkV k := by
      match vs, rs with
      | [x, y], ⟨e1, e2, _⟩ => cases e1; cases e2; rfl
    subst ev
    exact q (.ref p) _ _ (c1.step e s) (s1.trans e) ⟨p, rfl, upd_same⟩⟩
/-- such a tuple as any tuple -/
theorem ev_ktp (h : Ev Γ Ω te (Kt k)) : Ev Γ Ω te (Tp K [S k.1, S k.2]) := fun Z F H σ c Q q => h Z F H σ c Q fun v F1 H1 c1 s1 rv => by
  obtain ⟨b, e, hb⟩ := rv
  exact q v F1 H1 c1 s1 ⟨b, _, e, SqT.of hb, rfl, rfl, trivial⟩
theorem ev_kix0 (h : KeyT Γ Ω ta k) (hb : Ev Γ Ω tb (I 0)) : Ev Γ Ω (tOp (rIxT K) ta tb) (S k.1) := fun Z F H σ c Q q =>
  h Z F H σ c _ fun b F1 H1 c1 s1 hk => hb Z F1 H1 σ c1 _ fun y F2 H2 c2 s2 ry => by
    cases ry
    exact ⟨b, tkV k, 0, .str k.1, rfl, rfl, SqT.of (hk F2 H2 c2 s2.fe), rfl, q _ F2 H2 c2 (s1.trans s2) rfl⟩
theorem ev_kix1 (h : KeyT Γ Ω ta k) (hb : Ev Γ Ω tb (I 1)) : Ev Γ Ω (tOp (rIxT K) ta tb) (S k.2) := fun Z F H σ c Q q =>
  h Z F H σ c _ fun b F1 H1 c1 s1 hk => hb Z F1 H1 σ c1 _ fun y F2 H2 c2 s2 ry => by
    cases ry
    exact ⟨b, tkV k, 1, .str k.2, rfl, rfl, SqT.of (hk F2 H2 c2 s2.fe), rfl, q _ F2 H2 c2 (s1.trans s2) rfl⟩
theorem ev_kin {x : Str} (neg : Bool) (ha : Ev Γ Ω ta (S x)) (h : KeyT Γ Ω tb k) : Ev Γ Ω (tOp (rIn K neg) ta tb) (B (if neg then !decide (x ∈ [k.1, k.2]) else decide (x ∈ [k.1, k.2]))) := fun Z F H σ c Q q =>
  ha Z F H σ c _ fun v F1 H1 c1 s1 rv => h Z F1 H1 σ c1 _ fun b F2 H2 c2 s2 hk => by
    cases rv
    refine ⟨b, [k.1, k.2].map V.str, rfl, .inr (SqT.of (hk F2 H2 c2 (Same.refl _))), rfl, flat_strs, ?_⟩
    rw [in_strs]
    cases neg <;> exact q _ F2 H2 c2 (s1.trans s2) rfl
theorem eo_tnew : EvNw Γ Ω tDNewT (oT []) := fun Z F H σ c Q q p hp => q p F _ (c.grow (A := oT []) hp ⟨[], rfl, trivial⟩) (Ext.newH hp) hp
/-- d.get((a, b), e) -/
theorem ev_tget2 {S0 : As} (ha : Ev Γ Ω ta (Rf p)) (hm : Ω[j]? = some (p, A)) (hA : RdT A l) (hb : KeyT Γ Ω tb k) (hx : Ev Γ Ω tx Rx) (h1 : ∀ R, getT k l = some R → ∀ F v, R.p F v → S0.p F v) (h2 : getT k l = none → ∀ F v, Rx.p F v → S0.p F v) : Ev Γ Ω (tDGet2 ta tb tx) S0 := fun Z F H σ c Q q =>
  ha Z F H σ c _ fun a F1 H1 c1 s1 rv => by
    cases rv
    have look : ∀ {F2 H2 : Hp}, Ctx Z F2 H2 σ Γ Ω → ∃ kvs, Rd H2 p (.dT kvs) ∧ AllT F2 l kvs := fun {F2 H2} c2 => by
      obtain ⟨_, o, h2, ho⟩ := c2.own _ (List.mem_of_getElem? hm)
      obtain ⟨kvs, eo, hx⟩ := hA.rd _ _ ho
      refine ⟨kvs, ?_, hx⟩
      rcases eo with eo | ⟨od, eo⟩
      · exact .inl (by rw [h2, eo])
      · exact .inr ⟨od, by rw [h2, eo]⟩
    obtain ⟨kvs, g1, g2⟩ := look c1
    refine ⟨p, rfl, .inr ⟨kvs, g1⟩, hb Z F1 H1 σ c1 _ fun b F2 H2 c2 s2 hk => hx Z F2 H2 σ c2 _ fun x F3 H3 c3 s3 rx => ?_⟩
    obtain ⟨kvs, g1, g2⟩ := look c3
    refine ⟨valV kvs (tk k), .inr ⟨kvs, tk k, b, g1, rfl, hk F3 H3 c3 s3.fe, rfl⟩, q _ F3 H3 c3 (s1.trans (s2.trans s3)) ?_⟩
    cases e : getT k l with
    | none => rw [(g2.get (k := k)).2 e]; exact h2 e _ _ rx
    | some R =>
      obtain ⟨v, e3, e4⟩ := (g2.get (k := k)).1 R e
      rw [e3]; exact h1 R e _ _ e4
/-- d[(a, b)] = e -/
theorem st_tput (c : Ctx Z F H σ Γ Ω) (e : Ev Γ Ω te R) (ha : Ev Γ Ω ta (Rf p)) (hm : Ω[j]? = some (p, oT l)) (hb : KeyT Γ Ω tb k) (hl : l.length ≤ 10000000) (kk : ∀ F' H', Ctx Z F' H' σ Γ (Ω.set j (p, oT (putT l k R))) → Same F F' → n σ H') (hw : Wr Z p) : sDPut ta tb te ⟨n, r, bk, ct⟩ σ H :=
  e Z F H σ c _ fun v F1 H1 c1 s1 rv => ha Z F1 H1 σ c1 _ fun x F2 H2 c2 s2 rx => hb Z F2 H2 σ c2 _ fun b F3 H3 c3 s3 hk => by
    cases rx
    obtain ⟨_, o, h2, kvs, eo, hx⟩ := c3.own _ (List.mem_of_getElem? hm)
    subst eo
    exact ⟨p, _, rfl, DPut.t (k := tk k) h2 (hk F3 H3 c3 (Same.refl _)) (by rw [hx.length]; exact Nat.lt_of_le_of_lt hl (by decide)), kk F3 _ (c3.chg hm ⟨_, rfl, hx.put (R.mono (s2.trans s3).fe rv)⟩ hw) (s1.trans (s2.trans s3)).fe⟩
/-- the lock -/
theorem Ctx.unlockT {od : Obj} {kvs : List (List Key × V)} (c : Ctx (swapZ Z d (.frz od (.dT kvs))) F H σ Γ Ω) (hk : LkOk Z d (.dT kvs)) (hm : Ω[j]? = some (d, oTk od kvs l)) : H d = some (.frz od (.dT kvs)) ∧ Ctx Z F (upd H d (.dT kvs)) σ Γ (Ω.set j (d, oT l)) := by
  obtain ⟨hf, o0, h0, e0, hx⟩ := c.own _ (List.mem_of_getElem? hm)
  dsimp only at h0
  refine ⟨by rw [h0, e0], c.back hk hm ⟨kvs, rfl, hx⟩⟩
theorem st_lockT {t : TS} (c : Ctx Z F H σ Γ Ω) (hm : Ω[j]? = some (d, oT l)) (kk : ∀ od kvs, LkOk Z d (.dT kvs) → Ctx (swapZ Z d (.frz od (.dT kvs))) F (upd H d (.frz od (.dT kvs))) σ Γ (Ω.set j (d, oTk od kvs l)) →
    t ⟨fun σ' H' => H' d = some (.frz od (.dT kvs)) ∧ n σ' (upd H' d (.dT kvs)), fun v H' => H' d = some (.frz od (.dT kvs)) ∧ r v (upd H' d (.dT kvs)), fun σ' H' => H' d = some (.frz od (.dT kvs)) ∧ bk σ' (upd H' d (.dT kvs)), fun σ' H' => H' d = some (.frz od (.dT kvs)) ∧ ct σ' (upd H' d (.dT kvs))⟩ σ (upd H d (.frz od (.dT kvs)))) : tLock t ⟨n, r, bk, ct⟩ σ H := by
  obtain ⟨hf, o0, h0, kvs, e0, hx⟩ := c.own _ (List.mem_of_getElem? hm)
  dsimp only at h0
  subst e0
  exact ⟨d, .dT kvs, h0, trivial, fun od => kk od kvs (c.lkOk h0) (c.swap hm ⟨rfl, hx⟩)⟩
/-- what stands for the key in a turn -/
def KeyAs (R : As) (Ωe : Om) (k : Str × Str) : Prop := ∀ (Γ : Gm) (Ω : Om) (te : TE), (∀ x ∈ Ωe, x ∈ Ω) → Ev Γ Ω te R → KeyT Γ Ω te k
/-- for k, v in d.items(), d locked -/
theorem st_forTI {ι : Type} {tb : TS} {od : Obj} {kvs : List (List Key × V)} {a b : Nat} (G : ι → Gm) (O : ι → Om) (P : Nat → ι → Prop) (i0 : ι) (c : Ctx Z F H σ (G i0) (O i0)) (e : Ev (G i0) (O i0) te (Rf d)) (hro : Z.ro = []) (hO : ∀ i, (d, oTk od kvs l) ∈ O i) (hnt : ∀ i, ∀ x ∈ O i, ∀ F ys, ¬ x.2.p F (.tup ys)) (p0 : P 0 i0)
    (body : ∀ k x i Z' Ωe R F H σ (N : L2.St → Hp → Prop), l[k]? = some x → P k i → KeyAs R Ωe x.1 → (∀ p ∈ (O i).map (·.1), Wr Z' p) → Ctx Z' F H σ (((G i).set a (some R)).set b (some x.2)) (O i ++ Ωe) → (∀ j F' H' σ', P (k + 1) j → Ctx Z' F' H' σ' (G j) (O j ++ Ωe) → N σ' H') → tb ⟨N, r, n, N⟩ σ H)
    (hd : ∀ i F H σ, P l.length i → Ctx Z F H σ (G i) (O i) → n σ H) : tFor (iItemsT te) (gTup K 2 (gCons (gName a) (gCons (gName b) gNil))) tb ⟨n, r, bk, ct⟩ σ H := by
  refine e Z F H σ c _ fun v F1 H1 c1 s1 rv => ?_
  cases rv
  have look : ∀ {Z' : Bs} {F2 H2 : Hp} {σ2 : L2.St} {Γ2 : Gm} {Ω2 : Om}, Ctx Z' F2 H2 σ2 Γ2 Ω2 → (d, oTk od kvs l) ∈ Ω2 → H2 d = some (.frz od (.dT kvs)) ∧ AllT F2 l kvs := fun {Z' F2 H2 σ2 Γ2 Ω2} c2 hm => by
    obtain ⟨_, o1, h1, e1, hx2⟩ := c2.own _ hm
    dsimp only at h1
    exact ⟨by rw [h1, e1], hx2⟩
  refine ⟨d, od, kvs, rfl, (look c1 (hO i0)).1, ?_⟩
  refine ⟨fun k m σ H => m = l.length - k ∧ k ≤ l.length ∧ ∃ i F, P k i ∧ Ctx (Z.pin F1) F H σ (G i) (O i), ⟨_, rfl, Nat.zero_le _, i0, F1, p0, c1.topin (Same.refl _)⟩, ?_⟩
  rintro k m σ H ⟨rfl, hkn, i, F, p, cc⟩
  obtain ⟨hh, hx⟩ := look cc (hO i)
  rcases Nat.lt_or_eq_of_le hkn with hk | hk
  · have hxk : l[k]? = some l[k] := List.getElem?_eq_getElem hk
    obtain ⟨w, hw1, hw2⟩ := hx.at hxk
    refine .inr ⟨⟨hh, (List.getElem?_eq_some_iff.mp hw1).1⟩, fun σ' H' => ∃ i F, P (k + 1) i ∧ Ctx (Z.pin F1) F H' σ' (G i) (O i), fun σ' H' p' => ⟨l.length - (k + 1), by omega, rfl, hk, p'⟩, fun v H3 hy => ?_⟩
    obtain ⟨T, k', v', q, z2, z3, z4, z5, z6⟩ := hy
    rw [hw1] at z2
    cases z2
    subst z4 z6
    obtain ⟨e3, s3⟩ := Ext.new (o := .tup [.ref q, w]) cc.sub z5
    have c3 := cc.step e3 s3
    have hq3 : (upd H T (.tup [.ref q, w])) q = some (.tup (tkV l[k].1)) := by
      rw [upd_ne (ne_of_none z3 z5)]; exact z3
    refine ⟨T, [.ref q, w], rfl, SqT.of upd_same, rfl, ?_⟩
    have hwr : ∀ p ∈ (O i).map (·.1), p ∈ Z.ft ∨ Z.H p = none := fun p hp => loc_new cc hro p hp
    -- the key is frozen, or it is not
    by_cases hf : (upd F T (.tup [.ref q, w])) q = none
    · have hqn : q ∉ (O i).map (·.1) := fun hq => by
        obtain ⟨x, hx, ex⟩ := List.mem_map.mp hq
        obtain ⟨_, o, h2, ho⟩ := c3.own x hx
        have : x.1 = q := ex
        rw [this, hq3] at h2
        cases h2
        exact hnt i x hx _ _ ho
      have cz : Ctx ⟨upd F T (.tup [.ref q, w]), upd H T (.tup [.ref q, w]), (O i).map (·.1), F1, [q]⟩ (upd F T (.tup [.ref q, w])) (upd H T (.tup [.ref q, w])) σ (G i) (O i ++ [(q, oKt l[k].1)]) := by
        refine ⟨c3.sat, c3.sub, fun x hx => ?_, ?_, fun x hx => ?_, Ext.refl _ _ _, c3.pin⟩
        · rcases List.mem_append.mp hx with z | z
          · exact c3.own x z
          · rw [List.mem_singleton.mp z]
            exact ⟨hf, _, hq3, rfl⟩
        · rw [List.map_append]
          refine List.nodup_append.mpr ⟨c3.nd, by simp, fun x hx y hy => ?_⟩
          have : y = q := by simpa using hy
          rw [this]
          exact fun z => hqn (by rw [← z]; exact hx)
        · rcases List.mem_append.mp hx with z | z
          · exact .inl (List.mem_map_of_mem z)
          · rw [List.mem_singleton.mp z]
            exact .inr (.inr (by simp))
      refine (gts_cons (R := Rf q) gt_name (gts_cons (R := l[k].2) gt_name gts_nil)) _ _ _ σ [.ref q, w] _ cz ⟨rfl, l[k].2.mono e3.fe hw2, trivial⟩ _ fun σ' c' _ => ?_
      refine body k l[k] i _ [(q, oKt l[k].1)] (Rf q) _ _ _ _ hxk p (fun Γ Ω te hs ht => key_own ht (hs _ (by simp))) (fun p hp => .inl hp) c' fun j F' H' σ'' pj cj => ⟨j, F', pj, ?_⟩
      have hnd : ∀ x ∈ O j, x.1 ≠ q := fun x hx z => by
        have nd := cj.nd
        rw [List.map_append, List.nodup_append] at nd
        exact nd.2.2 x.1 (List.mem_map_of_mem hx) q (by simp) z
      refine ⟨cj.sat, cj.sub, fun x hx => cj.own x (List.mem_append_left _ hx), nodup_sub cj.nd (List.sublist_append_left _ _), fun x hx => ?_, c3.ext.transL cj.ext fun x hx => hwr x hx, cj.pin⟩
      rcases cj.loc x (List.mem_append_left _ hx) with z | z | z
      · exact (hwr _ z).elim .inl fun y => .inr (.inl y)
      · exact .inr (.inl (c3.ext.dm _ z))
      · exact absurd (List.mem_singleton.mp z) (hnd x hx)
    · have hf2 : (upd F T (.tup [.ref q, w])) q = some (.tup (tkV l[k].1)) := by
        cases z : (upd F T (.tup [.ref q, w])) q with
        | none => exact absurd z hf
        | some o =>
          have := c3.sub _ _ z
          rw [hq3] at this
          exact this.symm ▸ rfl
      refine (gts_cons (R := Kt l[k].1) gt_name (gts_cons (R := l[k].2) gt_name gts_nil)) _ _ _ σ [.ref q, w] _ c3 ⟨⟨q, rfl, hf2⟩, l[k].2.mono e3.fe hw2, trivial⟩ _ fun σ' c' _ => ?_
      exact body k l[k] i (Z.pin F1) [] (Kt l[k].1) _ _ _ _ hxk p (fun Γ Ω te hs ht => key_kt ht) hwr (by rw [List.append_nil]; exact c') fun j F' H' σ'' pj cj => ⟨j, F', pj, by rw [List.append_nil] at cj; exact cj⟩
  · subst hk
    exact .inl ⟨⟨hh, Nat.le_of_eq hx.length⟩, hd i F H σ p (cc.unpin c1.pin)⟩
end
end Y

namespace Y
open PySem L2 PySem.Spec
open PyProof.Rows (envOfC)
/-! ## texts: times a number, at a place -/
def repS (z : Str) (n : Nat) : Str := ⟨(List.replicate n z.cps).foldl (· ++ ·) #[]⟩
theorem repS_len (z : Str) (n : Nat) : (repS z n).length = n * z.length := by
  have h : ∀ (n : Nat) (b : Array Nat), ((List.replicate n z.cps).foldl (· ++ ·) b).size = b.size + n * z.cps.size := fun n => by
    induction n with
    | zero => intro b; simp
    | succ n ih =>
      intro b
      rw [List.replicate_succ, List.foldl_cons, ih, Array.size_append, Nat.succ_mul]
      omega
  show ((List.replicate n z.cps).foldl (· ++ ·) #[]).size = n * z.cps.size
  rw [h]; simp
def rMulS : R2 := fun x y H Q => ∃ z k, x = .str z ∧ y = .int k ∧ 1 ≤ k ∧ k ≤ 1000 ∧ 1 ≤ z.length ∧ z.length ≤ 1000 ∧ Q (.str (repS z k.toNat)) H
theorem op_mulS {X : Cx} : OpR X (binaryOp .Mult) rMulS := by
  intro pins s σ H x y v u Q I rx ry h
  obtain ⟨z, k, rfl, rfl, h1, h2, h3, h4, q⟩ := h
  obtain ⟨t, rfl⟩ := rx
  obtain ⟨t', rfl⟩ := ry
  have hz : (z.length == 0) = false := by simp; omega
  refine P.mul_str (by simp; omega) (fun _ _ => ?_) (fun _ _ => ?_) ?_
  · have e : (1000 : Int) ≤ (2 ^ 63 - 1) / k := (Int.le_ediv_iff_mul_le (by omega)).mpr (by omega)
    omega
  · have : z.length * k.toNat ≤ 1000 * 1000 := Nat.mul_le_mul h4 (by omega)
    refine decide_eq_false ?_
    have e : sizeLine = sizeLine := rfl
    exact Nat.not_lt.mpr (Nat.le_trans this (by decide))
  · rw [if_neg (by omega), hz, Bool.or_false]
    by_cases e : k = 1
    · subst e
      rw [if_pos (show ((1 : Int) == 1) = true from rfl)]
      have e0 : repS z (1 : Int).toNat = z := by
        show (⟨(List.replicate 1 z.cps).foldl (· ++ ·) #[]⟩ : Str) = z
        simp
      rw [e0] at q
      exact ⟨.str z, H, I, ⟨_, rfl⟩, q⟩
    · rw [if_neg (by simpa using e)]
      have hl := repS_len z k.toNat
      have : k.toNat * z.length ≤ 1000 * 1000 := Nat.mul_le_mul (by omega) h4
      exact ⟨by show (repS z k.toNat).length ≤ sizeLine; rw [hl]; exact Nat.le_trans this (by decide), ⟨.str (repS z k.toNat), H, I.tok _, ⟨_, rfl⟩, q⟩⟩
section
variable {Z : Bs} {F H F' H' : Hp} {σ σ' : L2.St} {Γ Γ' : Gm} {Ω Ω' Ωr : Om} {K : PySem.W.Frag} {ta tb te : TE} {t : TA} {sp sp' : Sp} {Rs : List As} {p C C' dx : Addr} {m : Str} {fs : List (Str × As)} {j : Nat} {E : L2.St → XK}
theorem ev_mulS {z : Str} {k : Int} (ha : Ev Γ Ω ta (S z)) (hb : Ev Γ Ω tb (I k)) (h : 1 ≤ k ∧ k ≤ 1000 ∧ 1 ≤ z.length ∧ z.length ≤ 1000) : Ev Γ Ω (tOp rMulS ta tb) (S (repS z k.toNat)) := ev_op ha hb fun F H v w s e e' Q q => by
  cases e
  cases e'
  exact ⟨z, k, rfl, rfl, h.1, h.2.1, h.2.2.1, h.2.2.2, q _ F H (Ext.refl _ _ _) s rfl⟩
theorem ev_ixS {z : Str} {i : Int} {c : Nat} (ha : Ev Γ Ω ta (S z)) (hb : Ev Γ Ω tb (I i)) (h : z.length ≤ sizeLine ∧ atI z.cps.toList i = some c) : Ev Γ Ω (tOp rIxS ta tb) (S ⟨#[c]⟩) := ev_op ha hb fun F H v w s e e' Q q => by
  cases e
  cases e'
  exact ⟨z, i, c, rfl, rfl, h.1, h.2, q _ F H (Ext.refl _ _ _) s rfl⟩
/-! ## isinstance of what is owned -/
theorem ev_isO {c : V} {cv : Value} {tc : TE} {b : Bool} (he : Ev Γ Ω te (Rf p)) (h2 : Ev Γ Ω tc (Cst c)) (hm : Ω[j]? = some (p, oI C dx fs)) (hc : ClsV c cv) (ic : C8.InsC K C) (hk : PySem.W.kitOne K (.ref C) cv = some b) : Ev Γ Ω (tCB (rIsi K) (tCons te (tCons tc tNil))) (B b) := fun Z F H σ c' Q q =>
  he Z F H σ c' _ fun x F1 H1 c1 s1 rx => h2 Z F1 H1 σ c1 _ fun y F2 H2 c2 s2 ry => by
    cases rx
    cases ry
    obtain ⟨_, o, h2, vs, eo, hf⟩ := c2.own _ (List.mem_of_getElem? hm)
    subst eo
    exact ⟨_, _, _, _, b, rfl, hc, .base (TyOf.ins h2 ic.cl ic.ha ic.hn ic.htk ic.hm), hk, q _ F2 H2 c2 (s1.trans s2) rfl⟩
/-! ## a method of a thing of one of two classes that hands out something new -/
theorem eo_meth2l {α : Type} {args : α → List As} {Oi : α → Om} {pre : α → Prop} {A : α → OA} (hsub : ∀ vs H Q E, CtRO args Oi pre A vs H Q E → sp vs H Q E) (a : α) (ho : Ev Γ Ω ta (Rf p)) (hm : Ω[j]? = some (p, oI C dx fs)) (hn : fs.lookup m = none) (h : EvA Γ Ω t Rs) (ha : args a = Rf p :: Rs) (hs : (Oi a).Sublist Ω) (hp : pre a) :
    EvNw Γ Ω (tMeth2 C C' m sp sp' E ta t) (A a) := fun Z F H σ c Q q =>
  ho Z F H σ c _ fun x F1 H1 c1 s1 rx => by
    cases rx
    obtain ⟨_, o, h2, vs, eo, hf⟩ := c1.own _ (List.mem_of_getElem? hm)
    subst eo
    refine .inl ⟨p, dx, vs, rfl, h2, hf.none hn, h Z F1 H1 σ c1 _ fun ws F2 H2 c2 s2 rs => hsub _ _ _ _ ?_⟩
    exact ⟨a, F2, c2.sub, by rw [ha]; exact ⟨rfl, rs⟩, c2.own.sub fun x hx => hs.subset hx, nodup_sub c2.nd hs, hp, fun q0 F3 H3 e3 s3 hq0 ow => q q0 F3 H3 (c2.add e3 s3 ow hq0) (s1.trans (s2.trans e3)) ((s1.trans s2).dm _ hq0)⟩
theorem eo_meth2r {α : Type} {args : α → List As} {Oi : α → Om} {pre : α → Prop} {A : α → OA} (hsub : ∀ vs H Q E, CtRO args Oi pre A vs H Q E → sp vs H Q E) (a : α) (ho : Ev Γ Ω ta (Rf p)) (hm : Ω[j]? = some (p, oI C dx fs)) (hn : fs.lookup m = none) (h : EvA Γ Ω t Rs) (ha : args a = Rf p :: Rs) (hs : (Oi a).Sublist Ω) (hp : pre a) :
    EvNw Γ Ω (tMeth2 C' C m sp' sp E ta t) (A a) := fun Z F H σ c Q q =>
  ho Z F H σ c _ fun x F1 H1 c1 s1 rx => by
    cases rx
    obtain ⟨_, o, h2, vs, eo, hf⟩ := c1.own _ (List.mem_of_getElem? hm)
    subst eo
    refine .inr ⟨p, dx, vs, rfl, h2, hf.none hn, h Z F1 H1 σ c1 _ fun ws F2 H2 c2 s2 rs => hsub _ _ _ _ ?_⟩
    exact ⟨a, F2, c2.sub, by rw [ha]; exact ⟨rfl, rs⟩, c2.own.sub fun x hx => hs.subset hx, nodup_sub c2.nd hs, hp, fun q0 F3 H3 e3 s3 hq0 ow => q q0 F3 H3 (c2.add e3 s3 ow hq0) (s1.trans (s2.trans e3)) ((s1.trans s2).dm _ hq0)⟩
end
end Y

namespace Y
open PySem L2 PySem.Spec
open PyProof.Rows
/-! ## sorted(d.keys()), the keys whole numbers -/
def tSortK (td : TE) : TE := fun σ H Q => td σ H fun x H1 => ∃ (d : Addr) (kvs : List (Key × V)) (ks : List Int), x = .ref d ∧ Rd H1 d (.dK kvs) ∧ kvs.map (·.1) = ks.map Sum.inl ∧ ks.length < 64 ∧ ∀ (ys : List Int) (p : Addr), ys.Perm ks → ys.Pairwise (· ≤ ·) → H1 p = none → Q (.ref p) (upd H1 p (.lst (ys.map V.int)))
theorem pe_sortedKeys {X : Cx} {e : Expr} {td : TE} {p0 pos apos cpos : Pos} (hc : X.calm = true) (hgs : Gl X "sorted") (hms : X.mg "sorted" = none) (he : PE X e td)
    (hbase : attributeBase e "keys" X.env (eval e X.env) = eval e X.env := by rfl) (hline : (apos.endLine == cpos.line) = true := by rfl)
    (hs1 : starEach [.Call (.Attribute e "keys" apos) [] [] cpos] X.env = (false, eval (.Call (.Attribute e "keys" apos) [] [] cpos) X.env) :: starEach [] X.env := by rfl)
    (hp1 : (backTo pos (starEach [] X.env)).any (·.1) = false := by rfl) :
    PE X (.Call (.Name "sorted" p0) [.Call (.Attribute e "keys" apos) [] [] cpos] [] pos) (tSortK td) := by
  refine ⟨fun pins s σ H Q I h => ?_⟩
  refine wpAny_Call_Name_kw (ld_blt I hgs hms (u := .builtin "sorted") (by decide +kernel) ?_)
  refine PyProof.Rows.callWith_builtin1 ?_ hs1 hp1
  rw [hs1]
  show wpAny _ _ (spliced ((false, eval (.Call (.Attribute e "keys" apos) [] [] cpos) X.env) :: backTo pos (starEach [] X.env))) _ _ s
  refine Calls.spliced_cons ?_
  refine wpAny_Call_method (T := "dict") (id := "dict.keys") hbase rfl hline F.plainAttrs_dict F.slot_dict_keys F.type_dict_keys (thn (he.run pins s σ H _ I h) fun u s1 ⟨x, H1, I1, rx, d, kvs, ks, ex, hd, hks, h64, q⟩ => ?_)
  subst ex
  obtain rfl : u = Value.ref d := rx
  obtain ⟨z, lo, vs, rel, dd⟩ := dk_rd I1.hok hd
  obtain ⟨ep, hat⟩ := dd.dictAt
  refine ⟨dd.typeIs, dd.mapOf.noDict, ?_⟩
  have hkeys : vs.map (·.1) = ks.map Sum.inl := rel.keys.symm.trans hks
  have hl : vs.length = ks.length := by
    have e := congrArg List.length hkeys
    rw [List.length_map, List.length_map] at e
    exact e
  have h16 : vs.length ≤ sizeLine := by rw [hl, sizeLine_eq]; omega
  have I2 : Inv X pins σ H1 { s1 with heap := s1.heap.push { cls := .type "dict_keys", data := .fields #[.ref d] } } := I1.kept (t' := s1.toks) fun b ob q => Heap.get?_push_of_some _ q
  show wpAny _ _ (callWith cpos (.builtin "dict.keys") [.ref d] [] []) _ X.xe s1
  refine method_meetsIn F.slot_dict_keys F.entry_dict_keys rfl (PySem.evalArgs_none ⟨rfl, dd.typeIs, F.args_dict_keys_1 _, _, PySem.W.kdl_meets_keys (mixKind X.prog X.w) d lo, ⟨vs, dd⟩, Calls.spliced_nil ?_⟩)
  refine Calls.call_function_entry PyProof.Rows.kind_sorted PyProof.Rows.plain_sorted PyProof.Rows.entry_sorted (PyProof.Rows.args_sorted1 _) ?_
  unfold Builtin.«sorted»
  refine wpAny_bind (m := checkCount "sorted" 1 1 _) (wpAny_pure ?_)
  refine wpAny_bind (PySem.W.kdu_collect (A := X.A.in1) (PySem.W.kdl_keys (knd := mixKind X.prog X.w) (d := d) (kvs := vs) (ep := ep)) (I2.ok.hd hc) ⟨⟨_, Heap.get?_push_size _ rfl, rfl, rfl⟩, hat.at fun o q => Heap.get?_push_of_some _ q⟩ h16 fun h' tk acc hk hacc => ?_)
  have hal : acc.toList.length = ks.length := by rw [Array.length_toList, hacc.1, hl]
  have hS : IntsAre acc.toList ks := ints_each hal fun j v e => by
    obtain ⟨k, x, e1, e2⟩ := hacc.2 j v (by rw [← Array.getElem?_toList]; exact e)
    have e3 : (vs.map (·.1))[j]? = some k := by rw [List.getElem?_map, e1]; rfl
    rw [hkeys, List.getElem?_map] at e3
    cases e4 : ks[j]? with
    | none => rw [e4] at e3; cases e3
    | some y =>
      rw [e4] at e3
      have e5 : Sum.inl y = k := Option.some.inj e3
      subst e5
      rcases keyIs_shape (show keyIs (Sum.inl y) v = true from e2) with ⟨i, t, ek, ev⟩ | ⟨z, t, ek, ev⟩
      · cases ek
        exact ⟨y, t, rfl, ev⟩
      · cases ek
  have I3 : Inv X pins σ H1 { s1 with heap := h', toks := tk } := I2.kept hk
  refine wpAny_bind (wpAny_newList ?_ (by rw [hal, sizeLine_eq]; omega))
  have hoL : (h'.push (seqObj "list" acc.toList.toArray 0)).get? h'.objs.size = some (seqObj "list" acc.toList.toArray 0) := Heap.get?_push_size _ rfl
  show wpAny _ _ _ _ _ { s1 with heap := h'.push (seqObj "list" acc.toList.toArray 0), toks := tk }
  refine wpAny_bind (wpAny_holding (wpAny_call_entry PyProof.Rows.slot_list_sort ⟨_, hoL, rfl⟩ PyProof.Rows.entry_list_sort
    (PyProof.Rows.list_sort_tree (s := { s1 with heap := h'.push (seqObj "list" acc.toList.toArray 0), toks := tk }) hoL hS (by rw [hal]; exact h64) fun out ys g1 g2 g3 => ⟨_, rfl, ?_⟩) (PyProof.Rows.args_list_sort _)))
  obtain ⟨e', he'⟩ := PyProof.Rows.sortedHeap_at (vs := acc.toList) (out := out) hoL
  have hlen : (ys.map V.int).length ≤ sizeLine := by
    rw [List.length_map, g2.length_eq]
    exact Nat.le_trans (Nat.le_of_lt h64) (by decide)
  refine wpAny_pure ⟨_, rfl, .ref h'.objs.size, upd H1 h'.objs.size (.lst (ys.map V.int)), I3.laid (t' := tk) (fun b u e => ?_) (Nat.le_refl _)
    (show ObjOk X.prog X.w _ _ _ (.lst (ys.map V.int)) from ⟨hlen, out.toList, e', vals_of_ints g1, by rw [Array.toArray_toList]; exact he'⟩), rfl, q ys _ g2 g3 (I3.hok.fresh (Nat.le_refl _))⟩
  have hb : b < h'.objs.size := Heap.lt_size e
  rw [PyProof.Rows.sortedHeap_old (Nat.ne_of_lt hb) (by rw [size_push']; exact Nat.lt_succ_of_lt hb)]
  exact Heap.get?_push_of_some _ e
/-! ## dicts by whole numbers under a lock -/
def oDk (od : Obj) (kvs : List (Key × V)) (l : List (Int × As)) : OA := ⟨fun F o => o = .frz od (.dK kvs) ∧ AllK F l kvs, fun s h => ⟨h.1, h.2.mono s⟩⟩
theorem AllK.at {F : Hp} : ∀ {l : List (Int × As)} {kvs : List (Key × V)} {i : Nat} {x : Int × As}, AllK F l kvs → l[i]? = some x → ∃ v, kvs[i]? = some (.inl x.1, v) ∧ x.2.p F v
  | [], [], i, x, _, e => by simp at e
  | (k, R) :: l, (q, v) :: kvs, 0, x, h, e => by
    have e' : (k, R) = x := Option.some.inj e
    subst e'
    obtain ⟨h1, h2, _⟩ := h
    exact ⟨v, by rw [h1]; rfl, h2⟩
  | (k, R) :: l, (q, v) :: kvs, i + 1, x, h, e => by
    obtain ⟨w, a, b⟩ := AllK.at (i := i) h.2.2 (by simpa using e)
    exact ⟨w, by simpa using a, b⟩
  | [], _ :: _, _, _, h, _ => h.elim
  | _ :: _, [], _, _, h, _ => h.elim
theorem AllK.ks {F : Hp} : ∀ {l : List (Int × As)} {kvs : List (Key × V)}, AllK F l kvs → kvs.map (·.1) = (l.map (·.1)).map Sum.inl
  | [], [], _ => rfl
  | (k, R) :: l, (q, v) :: kvs, h => by
    rw [List.map_cons, List.map_cons, List.map_cons, AllK.ks h.2.2, h.1]
  | [], _ :: _, h => h.elim
  | _ :: _, [], h => h.elim
section
variable {Z : Bs} {F H : Hp} {σ : L2.St} {Γ : Gm} {Ω : Om} {K : PySem.W.Frag} {te td ta : TE} {d p : Addr} {j : Nat} {l : List (Int × As)} {R : As} {A : OA} {n : L2.St → Hp → Prop} {r : VK} {bk ct : L2.St → Hp → Prop}
theorem Ctx.unlockD {od : Obj} {kvs : List (Key × V)} (c : Ctx (swapZ Z d (.frz od (.dK kvs))) F H σ Γ Ω) (hk : LkOk Z d (.dK kvs)) (hm : Ω[j]? = some (d, oDk od kvs l)) : H d = some (.frz od (.dK kvs)) ∧ Ctx Z F (upd H d (.dK kvs)) σ Γ (Ω.set j (d, oD l)) := by
  obtain ⟨hf, o0, h0, e0, hx⟩ := c.own _ (List.mem_of_getElem? hm)
  dsimp only at h0
  refine ⟨by rw [h0, e0], c.back hk hm ⟨kvs, rfl, hx⟩⟩
theorem st_lockD {t : TS} (c : Ctx Z F H σ Γ Ω) (hm : Ω[j]? = some (d, oD l)) (kk : ∀ od kvs, LkOk Z d (.dK kvs) → Ctx (swapZ Z d (.frz od (.dK kvs))) F (upd H d (.frz od (.dK kvs))) σ Γ (Ω.set j (d, oDk od kvs l)) →
    t ⟨fun σ' H' => H' d = some (.frz od (.dK kvs)) ∧ n σ' (upd H' d (.dK kvs)), fun v H' => H' d = some (.frz od (.dK kvs)) ∧ r v (upd H' d (.dK kvs)), fun σ' H' => H' d = some (.frz od (.dK kvs)) ∧ bk σ' (upd H' d (.dK kvs)), fun σ' H' => H' d = some (.frz od (.dK kvs)) ∧ ct σ' (upd H' d (.dK kvs))⟩ σ (upd H d (.frz od (.dK kvs)))) : tLock t ⟨n, r, bk, ct⟩ σ H := by
  obtain ⟨hf, o0, h0, kvs, e0, hx⟩ := c.own _ (List.mem_of_getElem? hm)
  dsimp only at h0
  subst e0
  exact ⟨d, .dK kvs, h0, trivial, fun od => kk od kvs (c.lkOk h0) (c.swap hm ⟨rfl, hx⟩)⟩
theorem src_ditems {od : Obj} {kvs : List (Key × V)} (e : Ev Γ Ω te (Rf d)) (hm : Ω[j]? = some (d, oDk od kvs l)) : SrcK (fun Ω' => (d, oDk od kvs l) ∈ Ω') Γ Ω (iItems te) l (fun x => Tp K [I x.1, x.2]) := fun Z F H σ c R q => e Z F H σ c _ fun v F1 H1 c1 s1 rv => by
  cases rv
  obtain ⟨hf, o0, h0, e0, hx⟩ := c1.own _ (List.mem_of_getElem? hm)
  dsimp only at h0
  refine ⟨d, od, kvs, rfl, by rw [h0, e0], q _ F1 H1 c1 s1 fun Z' F2 H2 σ2 Γ2 Ω2 c2 s2 hk => ?_⟩
  obtain ⟨_, o1, h1, e1, hx2⟩ := c2.own _ hk
  dsimp only at h1
  have hh : H2 d = some (.frz od (.dK kvs)) := by rw [h1, e1]
  refine ⟨⟨hh, Nat.le_of_eq hx2.length⟩, fun i y hy => ?_⟩
  obtain ⟨w, hw1, hw2⟩ := hx2.at hy
  refine ⟨⟨hh, (List.getElem?_eq_some_iff.mp hw1).1⟩, fun v H3 hv => ?_⟩
  obtain ⟨T, k', v', z2, z3, z4, z5⟩ := hv
  rw [hw1] at z2
  cases z2
  subst z3 z5
  obtain ⟨e3, s3⟩ := Ext.new (o := .tup [kV (.inl y.1), w]) c2.sub z4
  exact ⟨_, e3, s3, T, _, rfl, SqT.of upd_same, rfl, y.2.mono e3.fe hw2, trivial⟩
theorem src_dkeys {od : Obj} {kvs : List (Key × V)} (e : Ev Γ Ω te (Rf d)) (hm : Ω[j]? = some (d, oDk od kvs l)) : SrcK (fun Ω' => (d, oDk od kvs l) ∈ Ω') Γ Ω (iKeys te) (l.map (·.1)) (fun x => I x) := fun Z F H σ c R q => e Z F H σ c _ fun v F1 H1 c1 s1 rv => by
  cases rv
  obtain ⟨hf, o0, h0, e0, hx⟩ := c1.own _ (List.mem_of_getElem? hm)
  dsimp only at h0
  refine ⟨d, od, rfl, .inl ⟨kvs, by rw [h0, e0], q _ F1 H1 c1 s1 fun Z' F2 H2 σ2 Γ2 Ω2 c2 s2 hk => ?_⟩⟩
  obtain ⟨_, o1, h1, e1, hx2⟩ := c2.own _ hk
  dsimp only at h1
  have hh : H2 d = some (.frz od (.dK kvs)) := by rw [h1, e1]
  refine ⟨⟨hh, by rw [List.length_map]; exact Nat.le_of_eq hx2.length⟩, fun i x hi => ?_⟩
  rw [List.getElem?_map] at hi
  obtain ⟨y, hy, ey⟩ := Option.map_eq_some_iff.mp hi
  subst ey
  obtain ⟨w, hw1, hw2⟩ := hx2.at hy
  refine ⟨⟨hh, (List.getElem?_eq_some_iff.mp hw1).1⟩, fun v H3 hv => ?_⟩
  obtain ⟨z1, k', v', z2, z3⟩ := hv
  subst z1
  rw [hw1] at z2
  cases z2
  exact ⟨F2, Ext.refl _ _ _, c2.sub, z3⟩
/-- isinstance(d, dict), d owned -/
theorem ev_isD {cv : Value} {c : V} {tc : TE} {b : Bool} (he : Ev Γ Ω te (Rf p)) (h2 : Ev Γ Ω tc (Cst c)) (hm : Ω[j]? = some (p, oD l)) (hc : ClsV c cv) (hk : PySem.W.kitOne K (.type "dict") cv = some b) : Ev Γ Ω (tCB (rIsi K) (tCons te (tCons tc tNil))) (B b) := fun Z F H σ c' Q q =>
  he Z F H σ c' _ fun x F1 H1 c1 s1 rx => h2 Z F1 H1 σ c1 _ fun y F2 H2 c2 s2 ry => by
    cases rx
    cases ry
    obtain ⟨_, o, h2, kvs, eo, hf⟩ := c2.own _ (List.mem_of_getElem? hm)
    subst eo
    exact ⟨_, _, _, _, b, rfl, hc, .base (TyOf.dK h2), hk, q _ F2 H2 c2 (s1.trans s2) rfl⟩
theorem st_dclear (c : Ctx Z F H σ Γ Ω) (h : Ev Γ Ω ta (Rf p)) (hm : Ω[j]? = some (p, oD l)) (k : ∀ F' H', Ctx Z F' H' σ Γ (Ω.set j (p, oD [])) → n σ H') (hw : Wr Z p) : tDrop (tBM0 K "dict" rDClear ta) ⟨n, r, bk, ct⟩ σ H := by
  refine h Z F H σ c _ fun v F1 H1 c1 s1 rv => ?_
  cases rv
  obtain ⟨_, o, h2, kvs, eo, hx⟩ := c1.own _ (List.mem_of_getElem? hm)
  subst eo
  exact ⟨.inr (.inr (.inl ⟨rfl, .inl ⟨kvs, h2⟩⟩)), p, kvs, rfl, rfl, h2, k F1 _ (c1.chg hm (A' := oD []) ⟨[], rfl, trivial⟩ hw)⟩
/-- sorted(d.keys()) -/
theorem eo_sortedK {ks ns : List Int} (ha : Ev Γ Ω te (Rf p)) (hm : Ω[j]? = some (p, oD l)) (e : l.map (·.1) = ks) (hn : ns.Perm ks) (hp : ns.Pairwise (· ≤ ·)) (h64 : ks.length < 64) : EvNw Γ Ω (tSortK te) (oL (ns.map fun n => I n)) := fun Z F H σ c Q q =>
  ha Z F H σ c _ fun v F1 H1 c1 s1 rv => by
    cases rv
    obtain ⟨_, o, h2, kvs, eo, hx⟩ := c1.own _ (List.mem_of_getElem? hm)
    subst eo
    refine ⟨p, kvs, ks, rfl, .inl h2, by rw [← e]; exact hx.ks, h64, fun ys a hy hs ha => ?_⟩
    have ey : ys = ns := ints_eq (hy.trans hn.symm) hs hp
    subst ey
    exact q a F1 _ (c1.grow (A := oL (ys.map fun n => I n)) ha ⟨_, rfl, allI ys⟩) (s1.trans (Ext.newH ha)) (s1.dm _ ha)
end

/-! ## more of lists and dicts that are new or stand still -/
section
variable {Z : Bs} {F H : Hp} {σ : L2.St} {Γ : Gm} {Ω : Om} {K : PySem.W.Frag} {te tb ta : TE} {t : TA} {d p : Addr} {j : Nat} {l : List (Int × As)} {R R' : As} {A : OA} {Rs Ss : List As}
theorem lw_lh (h : Ev Γ Ω te (Lh Rs)) : Lw Γ Ω te Rs := fun Z F H σ c Q q => h Z F H σ c _ fun v F1 H1 c1 s1 ⟨a, xs, e, h1, h2⟩ => by
  subst e
  exact q a F1 H1 c1 s1 ⟨xs, h1, h2⟩
theorem lh_lw (h : Lw Γ Ω te Rs) : Ev Γ Ω te (Lh Rs) := fun Z F H σ c Q q => h Z F H σ c Q fun a F1 H1 c1 s1 ⟨xs, e, l⟩ => q _ F1 H1 c1 s1 ⟨a, xs, rfl, e, l⟩
theorem lh_ls {F : Hp} {v : V} (h : (Lh Rs).p F v) : (Ls K Rs).p F v := by
  obtain ⟨a, xs, e, h1, h2⟩ := h
  exact ⟨a, xs, e, SqL.of h1, h2⟩
/-- what is new is frozen at once -/
theorem ev_ofNwG (e : EvNw Γ Ω te A) (hf : ∀ (F F' : Hp) (p : Addr) (o : HO), A.p F o → Same F F' → F' p = some o → R.p F' (.ref p)) : Ev Γ Ω te R := fun Z F H σ c Q q => e Z F H σ c _ fun p F' H' c2 s hn => by
  obtain ⟨h1, o, h2, hx⟩ := c2.own _ List.mem_cons_self
  dsimp only at h1 h2
  have s2 : Same F' (upd F' p o) := fun a u q => by rw [upd_ne (ne_of_none q h1)]; exact q
  have nd := c2.nd
  rw [List.map_cons, List.nodup_cons] at nd
  have other : ∀ x ∈ Ω, x.1 ≠ p := fun x hx z => nd.1 (List.mem_map.mpr ⟨x, hx, z⟩)
  have sub2 : Same (upd F' p o) H' := fun a u q => by
    by_cases z : a = p
    · rw [z] at q ⊢; rw [upd_same] at q; rw [← q]; exact h2
    · rw [upd_ne z] at q; exact c2.sub a u q
  have c3 : Ctx Z (upd F' p o) H' σ Γ Ω := by
    refine ⟨c2.sat.mono s2, sub2, fun x hx => ?_, nd.2, fun x hx => c2.loc x (List.mem_cons_of_mem _ hx), ⟨c2.ext.fe.trans s2, c2.ext.fr, c2.ext.dm, fun a g1 g2 => ?_⟩, c2.pin.trans s2⟩
    · obtain ⟨k1, o', k2, k3⟩ := c2.own x (List.mem_cons_of_mem _ hx)
      exact ⟨by rw [upd_ne (other x hx)]; exact k1, o', k2, x.2.mono s2 k3⟩
    · have z : a ≠ p := fun z => g1 (by rw [z]; exact c.ext.dm _ hn)
      rw [upd_ne z]
      exact c2.ext.nw a g1 g2
  refine q _ _ H' c3 ⟨s.fe.trans s2, s.fr, s.dm, fun a g1 g2 => ?_⟩ (hf F' _ p o hx s2 upd_same)
  have z : a ≠ p := fun z => g1 (by rw [z]; exact hn)
  rw [upd_ne z]
  exact s.nw a g1 g2
theorem lw_nw (e : EvNw Γ Ω te (oL Rs)) : Lw Γ Ω te Rs := lw_lh (ev_ofNwG e fun F F' p o ⟨xs, eo, hx⟩ s h => ⟨p, xs, rfl, by rw [h, eo], hx.mono s⟩)
theorem ev_ofNwD (e : EvNw Γ Ω te (oD l)) : Ev Γ Ω te (Dc l) := ev_ofNwG e fun F F' p o ⟨kvs, eo, hx⟩ s h => ⟨p, kvs, rfl, by rw [h, eo], hx.mono s⟩
/-- a slot by other words -/
theorem Ctx.retype (c : Ctx Z F H σ Γ Ω) (i : Nat) (h : Γ[i]? = some (some R)) (k : ∀ v, R.p F v → R'.p F v) : Ctx Z F H σ (Γ.set i (some R')) Ω := by
  obtain ⟨v, e, r⟩ := c.sat.get h
  have z := c.set i (k v r)
  have e2 : σ.set i (some v) = σ := by
    apply List.ext_getElem?
    intro j
    by_cases hj : i = j
    · subst hj
      rw [List.getElem?_set_self (by have := (List.getElem?_eq_some_iff.mp e).1; exact this), e]
    · rw [List.getElem?_set_ne hj]
  rw [e2] at z
  exact z
/-- a def with a promise without changes, some arguments left out -/
theorem ev_callDv {α : Type} {args : α → List As} {pre : α → Prop} {res : α → As} {E : XK} {dvs : List V} (a : α) (h : EvA Γ Ω t Rs) (ha : ∀ F vs, All F Rs vs → All F (args a) (vs ++ dvs)) (hp : pre a) : Ev Γ Ω (tCall (CtF args pre res) dvs E t) (res a) := fun Z F H σ c Q q =>
  h Z F H σ c _ fun vs F1 H1 c1 s1 rs => ⟨a, F1, c1.sub, ha _ _ rs, hp, fun v F2 H2 e2 s2 r => q v F2 H2 (c1.step e2 s2) (s1.trans e2) r⟩
/-! dict(pairs), the keys whole numbers -/
theorem allK_merge {F : Hp} : ∀ {xs : List (Int × Int)} {acc : List (Int × As)} {kacc : List (Key × V)}, AllK F acc kacc → AllK F (xs.foldl (fun a x => putD a x.1 (I x.2)) acc) (mergeK kacc (xs.map fun x => (Sum.inl x.1, V.int x.2)))
  | [], _, _, h => h
  | x :: xs, acc, kacc, h => by
    have h2 : AllK F (putD acc x.1 (I x.2)) (putK kacc (.inl x.1) (V.int x.2)) := AllK.put (R := I x.2) rfl h
    exact allK_merge (xs := xs) h2
theorem fold_putD {β : Type} : ∀ {xs : List (Int × β)} {acc : List (Int × β)}, ((acc ++ xs).map (·.1)).Nodup → xs.foldl (fun a x => putD a x.1 x.2) acc = acc ++ xs
  | [], acc, _ => (List.append_nil acc).symm
  | x :: xs, acc, h => by
    have hn : hasD x.1 acc = false := by
      have hm : x.1 ∉ acc.map (·.1) := fun z => by
        rw [List.map_append, List.nodup_append] at h
        exact h.2.2 _ z x.1 List.mem_cons_self rfl
      have key : ∀ l : List (Int × β), x.1 ∉ l.map (·.1) → hasD x.1 l = false := fun l => by
        induction l with
        | nil => intro _; rfl
        | cons q l ih =>
          intro h
          show (decide (q.1 = x.1) || hasD x.1 l) = false
          rw [ih fun z => h (List.mem_cons_of_mem _ z), decide_eq_false (fun z => h (by rw [← z]; exact List.mem_cons_self))]; rfl
      exact key acc hm
    have e : putD acc x.1 x.2 = acc ++ [x] := by unfold putD; rw [hn, if_neg Bool.false_ne_true]
    rw [List.foldl_cons, e, fold_putD (xs := xs) (acc := acc ++ [x]) (by rw [List.append_assoc]; exact h), List.append_assoc]; rfl
theorem all_pairs {F : Hp} : ∀ {xs : List (Int × Int)} {vs : List V}, All F (xs.map (Fr K)) vs → ∃ ps : List Addr, vs = ps.map V.ref ∧ Paired (fun p (kv : Key × V) => SqT K F p [kV kv.1, kv.2]) ps (xs.map fun x => (Sum.inl x.1, V.int x.2))
  | [], [], _ => ⟨[], rfl, .nil⟩
  | x :: xs, v :: vs, ⟨⟨a, ys, e, h1, h2⟩, h3⟩ => by
    obtain ⟨ps, e2, hp⟩ := all_pairs h3
    obtain ⟨y1, y2, ey, r1, r2⟩ := h2.two
    cases r1
    cases r2
    subst ey e e2
    exact ⟨a :: ps, rfl, .cons h1 hp⟩
  | [], _ :: _, h => h.elim
  | _ :: _, [], h => h.elim
theorem paired_same {F H : Hp} (s : Same F H) {ps : List Addr} {ks : List (Key × V)} (h : Paired (fun p (kv : Key × V) => SqT K F p [kV kv.1, kv.2]) ps ks) : Paired (fun p (kv : Key × V) => SqT K H p [kV kv.1, kv.2]) ps ks := by
  induction h with
  | nil => exact .nil
  | cons h t ih => exact .cons (same_seqT s h) ih
theorem eo_dictP {xs : List (Int × Int)} (ha : EvA Γ Ω t [Ls K (xs.map (Fr K))]) (nd : (xs.map (·.1)).Nodup) : EvNw Γ Ω (tCB (fun us H Q => ∃ (a : Addr) (ps : List Addr) (kvs : List (Key × V)), us = [.ref a] ∧ SqL K H a (ps.map V.ref) ∧ Paired (fun p kv => SqT K H p [kV kv.1, kv.2]) ps kvs ∧
    ∀ p, H p = none → Q (.ref p) (upd H p (.dK (mergeK [] kvs)))) t) (oD (xs.map fun x => (x.1, I x.2))) := fun Z F H σ c Q q =>
  ha Z F H σ c _ fun vs F1 H1 c1 s1 rs => by
    obtain ⟨v, rfl, a, ys, e, h1, h2⟩ := rs.one
    subst e
    obtain ⟨ps, ep, hp⟩ := all_pairs h2
    subst ep
    refine ⟨a, ps, _, rfl, c1.sub.seq h1, paired_same c1.sub hp, fun p hpn => q p F1 _ (c1.grow (A := oD (xs.map fun x => (x.1, I x.2))) hpn ⟨_, rfl, ?_⟩) (s1.trans (Ext.newH hpn)) (s1.dm _ hpn)⟩
    have h3 := allK_merge (F := F1) (xs := xs) (acc := []) (kacc := []) trivial
    have e4 : xs.foldl (fun a x => putD a x.1 (I x.2)) ([] : List (Int × As)) = xs.map fun x => (x.1, I x.2) := by
      have h5 := fold_putD (xs := xs.map fun x => (x.1, I x.2)) (acc := []) (by rw [List.nil_append, List.map_map]; exact nd)
      rw [List.foldl_map] at h5
      exact h5
    rw [e4] at h3
    exact h3
/-! d == e, both frozen, of whole numbers -/
theorem allK_int {F : Hp} : ∀ {l : List (Int × Int)} {kvs : List (Key × V)}, AllK F (l.map fun x => (x.1, I x.2)) kvs → kvs = l.map fun x => (Sum.inl x.1, V.int x.2)
  | [], [], _ => rfl
  | x :: l, (q, v) :: kvs, ⟨h1, h2, h3⟩ => by
    have h2 : v = V.int x.2 := h2
    rw [h1, h2, allK_int h3]; rfl
  | [], _ :: _, h => h.elim
  | _ :: _, [], h => h.elim
theorem valV_dint {k v : Int} : ∀ {l : List (Int × Int)}, getD k l = some v → valV (l.map fun x => ((Sum.inl x.1 : Key), V.int x.2)) (.inl k) = some (V.int v)
  | [], h => by cases h
  | (i, x) :: l, h => by
    have h : (if i = k then some x else getD k l) = some v := h
    rw [List.map_cons]
    by_cases e : i = k
    · rw [if_pos e] at h
      cases h
      exact valV_pos (congrArg Sum.inl e)
    · rw [if_neg e] at h
      rw [valV_neg (fun z => e (Sum.inl.inj z))]
      exact valV_dint h
theorem ev_neDD {l1 l2 : List (Int × Int)} (h1 : Ev Γ Ω ta (Dc (l1.map fun x => (x.1, I x.2)))) (h2 : Ev Γ Ω tb (Dc (l2.map fun x => (x.1, I x.2)))) (hl : l1.length = l2.length) (hh : ∀ x ∈ l1, getD x.1 l2 = some x.2) : Ev Γ Ω (tOp rNeDA ta tb) (B false) := fun Z F H σ c Q q =>
  h1 Z F H σ c _ fun v F1 H1 c1 s1 ⟨a1, k1, e1, g1, r1⟩ => h2 Z F1 H1 σ c1 _ fun w F2 H2 c2 s2 ⟨a2, k2, e2, g2, r2⟩ => by
    subst e1 e2
    have z1 := allK_int r1
    have z2 := allK_int r2
    subst z1 z2
    refine ⟨a1, a2, _, _, rfl, rfl, c2.sub _ _ (s2.fe _ _ g1), c2.sub _ _ g2, by rw [List.length_map, List.length_map, hl], fun y hy => ?_, q _ F2 H2 c2 (s1.trans s2) rfl⟩
    obtain ⟨x, hx, ex⟩ := List.mem_map.mp hy
    subst ex
    exact ⟨valV_dint (hh x hx), rfl⟩
end
end Y

namespace Y
open PySem L2 PySem.Spec
/-! ## texts: str(n), rjust, join, startswith -/
/-- a method of a built-in, in a comprehension: K told -/
theorem pe_bmK {X : Cx} {K : PySem.W.Frag} {o e : Expr} {es : List Expr} {to : TE} {t : TA} {name : Str} {apos cpos : Pos} {T id : String} {r : V → List V → Hp → VK → Prop} (hK : X.K = K) (pa : PlainAttrs T) (slot : Slot T name id) (hty : typeOf (.builtin id) = pure (.type "method_descriptor")) (hm : MtR X id r) (ho : PE X o to) (ha : PA X (e :: es) t)
    (hbase : attributeBase o name X.env (eval o X.env) = eval o X.env := by rfl)
    (hfew : ((backTo cpos (starEach (e :: es) X.env)).all (fun x => !x.1) && (backToKw cpos (keywordEach [] X.env)).all (fun x => x.1.isSome)
      && decide ((e :: es).length + ([] : List Keyword).length + (if ([] : List Keyword).isEmpty then 0 else 1) < 30)) = true := by rfl)
    (hline : (apos.endLine == cpos.line) = true := by rfl) (hs : starEach (e :: es) X.env = (false, eval e X.env) :: starEach es X.env := by rfl) (hplain : (backTo cpos (starEach es X.env)).any (·.1) = false := by rfl) :
    PE X (.Call (.Attribute o name apos) (e :: es) [] cpos) (tBM K T r to t) := by
  have h := pe_bm pa slot hty hm ho ha hbase hfew hline hs hplain
  rw [hK] at h
  exact h
def rStrI : List V → Hp → VK → Prop := fun xs H Q => ∃ i : Int, xs = [.int i] ∧ i.natAbs.log2 < 1920 ∧ Q (.str (toString i)) H
theorem rc_strI {n : Int} (h : n.natAbs.log2 < 1920) : RC rStrI [I n] (S (toString n)) := fun F H vs s hv Q q => by
  obtain ⟨v, rfl, e⟩ := hv.one
  cases e
  exact ⟨n, rfl, h, q _ F H (Ext.refl _ _ _) s rfl⟩
theorem strs_of {F : Hp} : ∀ {ys : List Str} {zs : List V}, All F (ys.map fun y => S y) zs → zs = ys.map V.str
  | [], [], _ => rfl
  | y :: ys, z :: zs, h => by
    have e : z = .str y := h.1
    rw [e, strs_of h.2]; rfl
  | [], _ :: _, h => h.elim
  | _ :: _, [], h => h.elim
section
variable {Γ : Gm} {Ω : Om} {K : PySem.W.Frag} {ta tb : TE}
def rRjust : V → List V → Hp → VK → Prop := fun x xs H Q => ∃ (a : Str) (i : Int), x = .str a ∧ xs = [.int i] ∧ PadOk i = true ∧ Q (.str (Txt.rjust a i)) H
theorem ev_rjust {x : Str} {n : Int} (ha : Ev Γ Ω ta (S x)) (hb : Ev Γ Ω tb (I n)) (h : PadOk n = true) : Ev Γ Ω (tBM K "str" rRjust ta (tCons tb tNil)) (S (Txt.rjust x n)) := fun Z F H σ c Q q =>
  ha Z F H σ c _ fun v F1 H1 c1 s1 rv => by
    cases rv
    refine ⟨rfl, hb Z F1 H1 σ c1 _ fun w F2 H2 c2 s2 rw' => ?_⟩
    cases rw'
    exact ⟨x, n, rfl, rfl, h, q _ F2 H2 c2 (s1.trans s2) rfl⟩
def rJoin (K : PySem.W.Frag) : V → List V → Hp → VK → Prop := fun x xs H Q => ∃ a p, ∃ ys : List Str, x = .str a ∧ xs = [.ref p] ∧ (SqL K H p (ys.map V.str) ∨ SqT K H p (ys.map V.str)) ∧ (ys.map (·.length)).sum + ys.length * a.length ≤ 16777216 ∧ Q (.str (Txt.join a ys)) H
theorem ev_join {x : Str} {ys : List Str} (ha : Ev Γ Ω ta (S x)) (hb : Ev Γ Ω tb (Ls K (ys.map fun y => S y))) (h : (ys.map (·.length)).sum + ys.length * x.length ≤ 16777216) : Ev Γ Ω (tBM K "str" (rJoin K) ta (tCons tb tNil)) (S (Txt.join x ys)) := fun Z F H σ c Q q =>
  ha Z F H σ c _ fun v F1 H1 c1 s1 rv => by
    cases rv
    refine ⟨rfl, hb Z F1 H1 σ c1 _ fun w F2 H2 c2 s2 rw' => ?_⟩
    obtain ⟨p, zs, e, hs, hl⟩ := rw'
    subst e
    have ez := strs_of hl
    subst ez
    exact ⟨x, p, ys, rfl, rfl, .inl (c2.sub.seq hs), h, q _ F2 H2 c2 (s1.trans s2) rfl⟩
def rStartsW : V → List V → Hp → VK → Prop := fun x xs H Q => ∃ a b : Str, x = .str a ∧ xs = [.str b] ∧ Q (.bl (Txt.startswith a b)) H
theorem ev_startsW {x y : Str} (ha : Ev Γ Ω ta (S x)) (hb : Ev Γ Ω tb (S y)) : Ev Γ Ω (tBM K "str" rStartsW ta (tCons tb tNil)) (B (Txt.startswith x y)) := fun Z F H σ c Q q =>
  ha Z F H σ c _ fun v F1 H1 c1 s1 rv => by
    cases rv
    refine ⟨rfl, hb Z F1 H1 σ c1 _ fun w F2 H2 c2 s2 rw' => ?_⟩
    cases rw'
    exact ⟨x, y, rfl, rfl, q _ F2 H2 c2 (s1.trans s2) rfl⟩
def rSplit : V → List V → Hp → VK → Prop := fun x xs H Q => ∃ a b : Str, x = .str a ∧ xs = [.str b] ∧ (b.length == 0) = false ∧ a.length + 2 ≤ sizeLine ∧ rNewStrs (Txt.split a b) H Q
theorem all_of {F : Hp} : ∀ {ys : List Str}, All F (ys.map fun y => S y) (ys.map V.str)
  | [] => trivial
  | y :: ys => ⟨rfl, all_of⟩
theorem ev_split {x y : Str} (ha : Ev Γ Ω ta (S x)) (hb : Ev Γ Ω tb (S y)) (h1 : (y.length == 0) = false) (h2 : x.length + 2 ≤ sizeLine) : Ev Γ Ω (tBM K "str" rSplit ta (tCons tb tNil)) (Ls K ((Txt.split x y).map fun z => S z)) := fun Z F H σ c Q q =>
  ha Z F H σ c _ fun v F1 H1 c1 s1 rv => by
    cases rv
    refine ⟨rfl, hb Z F1 H1 σ c1 _ fun w F2 H2 c2 s2 rw' => ?_⟩
    cases rw'
    refine ⟨x, y, rfl, rfl, h1, h2, fun p hp => ?_⟩
    obtain ⟨F3, H3, e, c3, s3, r⟩ := new_ls (K := K) (Rs := (Txt.split x y).map fun z => S z) c2 all_of hp
    rw [← e]
    exact q _ F3 H3 c3 ((s1.trans s2).trans s3) r
def rPart : V → List V → Hp → VK → Prop := fun x xs H Q => ∃ a b : Str, x = .str a ∧ xs = [.str b] ∧ (b.length == 0) = false ∧ a.length ≤ sizeLine ∧ ∀ p, H p = none → Q (.ref p) (upd H p (.tup [.str (Txt.partition a b).1, .str (Txt.partition a b).2.1, .str (Txt.partition a b).2.2]))
theorem ev_part {x y : Str} (ha : Ev Γ Ω ta (S x)) (hb : Ev Γ Ω tb (S y)) (h1 : (y.length == 0) = false) (h2 : x.length ≤ sizeLine) : Ev Γ Ω (tBM K "str" rPart ta (tCons tb tNil)) (Tp K [S (Txt.partition x y).1, S (Txt.partition x y).2.1, S (Txt.partition x y).2.2]) := fun Z F H σ c Q q =>
  ha Z F H σ c _ fun v F1 H1 c1 s1 rv => by
    cases rv
    refine ⟨rfl, hb Z F1 H1 σ c1 _ fun w F2 H2 c2 s2 rw' => ?_⟩
    cases rw'
    refine ⟨x, y, rfl, rfl, h1, h2, fun p hp => ?_⟩
    obtain ⟨e, s⟩ := Ext.new (o := .tup [.str (Txt.partition x y).1, .str (Txt.partition x y).2.1, .str (Txt.partition x y).2.2]) c2.sub hp
    exact q (.ref p) _ _ (c2.step e s) ((s1.trans s2).trans e) ⟨p, _, rfl, SqT.of upd_same, rfl, rfl, rfl, trivial⟩
def rIntS : List V → Hp → VK → Prop := fun xs H Q => ∃ (a : Str) (n : Int), xs = [.str a] ∧ PySem.intText? a = some n ∧ a.length ≤ 640 ∧ Q (.int n) H
theorem rc_intS {x : Str} {n : Int} (h : PySem.intText? x = some n) (hl : x.length ≤ 640) : RC rIntS [S x] (I n) := fun F H vs s hv Q q => by
  obtain ⟨v, rfl, e⟩ := hv.one
  cases e
  exact ⟨x, n, rfl, h, hl, q _ F H (Ext.refl _ _ _) s rfl⟩
def rInSg : V → V → Hp → VK → Prop := fun x y H Q => ∃ (c : Nat) (z : Str), x = .str ⟨#[c]⟩ ∧ y = .str z ∧ Q (.bl (decide (c ∈ z.cps.toList))) H
theorem ev_inSg {k : Nat} {y : Str} (ha : Ev Γ Ω ta (S ⟨#[k]⟩)) (hb : Ev Γ Ω tb (S y)) : Ev Γ Ω (tOp rInSg ta tb) (B (decide (k ∈ y.cps.toList))) := ev_op ha hb fun F H x z s e e' Q q => by
  cases e; cases e'
  exact ⟨k, y, rfl, rfl, q _ F H (Ext.refl _ _ _) s rfl⟩
def rNiSg : V → V → Hp → VK → Prop := fun x y H Q => ∃ (c : Nat) (z : Str), x = .str ⟨#[c]⟩ ∧ y = .str z ∧ Q (.bl (!decide (c ∈ z.cps.toList))) H
theorem ev_niSg {k : Nat} {y : Str} (ha : Ev Γ Ω ta (S ⟨#[k]⟩)) (hb : Ev Γ Ω tb (S y)) : Ev Γ Ω (tOp rNiSg ta tb) (B (!decide (k ∈ y.cps.toList))) := ev_op ha hb fun F H x z s e e' Q q => by
  cases e; cases e'
  exact ⟨k, y, rfl, rfl, q _ F H (Ext.refl _ _ _) s rfl⟩
/-! a module's constant that is a tuple of texts -/
def KtS (K : PySem.W.Frag) (a : Addr) (ys : List Str) : Prop := ∀ F : Hp, SqT K F a (ys.map V.str)
theorem kts_mk {a : Addr} {dd : Option Addr} {sl : Array (Option Value)} {ys : List Str} {us : List Value} {n : Nat} (h : K.lookup a = some ⟨.type "tuple", dd, .seq us.toArray n, sl⟩) (r : Vals (ys.map V.str) us) (hl : us.length ≤ 1000) : KtS K a ys := fun F =>
  .inr ⟨_, us.toArray, n, h, rfl, rfl, by rw [List.size_toArray]; exact Nat.le_of_lt (small1000 hl), by rw [List.toList_toArray]; exact r⟩
theorem ev_ktS {a : Addr} {ys : List Str} (h : KtS K a ys) : Ev Γ Ω (tC (.ref a)) (Tp K (ys.map fun y => S y)) := fun Z F H σ c Q q => q _ F H c (Ext.refl _ _ _) ⟨a, _, rfl, h F, all_of⟩
/-- list(a tuple) -/
theorem ev_listTp {Rs : List As} (ha : Ev Γ Ω ta (Tp K Rs)) : Ev Γ Ω (tCB (fun xs H Q => ∃ p ys, xs = [.ref p] ∧ (SqL K H p ys ∨ SqT K H p ys) ∧ ∀ l, H l = none → Q (.ref l) (upd H l (.lst ys))) (tCons ta tNil)) (Ls K Rs) := fun Z F H σ c Q q =>
  ha Z F H σ c _ fun a F1 H1 c1 s1 rv => by
    obtain ⟨a, xs, e, hs, hl⟩ := rv
    subst e
    refine ⟨a, xs, rfl, .inr (same_seqT c1.sub hs), fun p hp => ?_⟩
    obtain ⟨F2, H2, e, c2, s2, r⟩ := new_ls (K := K) (Rs := Rs) c1 hl hp
    rw [← e]
    exact q _ F2 H2 c2 (s1.trans s2) r
end
/-! a text some times, or never -/
def rMulS0 : R2 := fun x y H Q => ∃ z k, x = .str z ∧ y = .int k ∧ 0 ≤ k ∧ k ≤ 1000 ∧ 1 ≤ z.length ∧ z.length ≤ 1000 ∧ Q (.str (repS z k.toNat)) H
theorem op_mulS0 {X : Cx} : OpR X (binaryOp .Mult) rMulS0 := by
  intro pins s σ H x y v u Q I rx ry h
  obtain ⟨z, k, e1, e2, h1, h2, h3, h4, q⟩ := h
  by_cases h0 : k = 0
  · subst e1 e2 h0
    obtain ⟨t, rfl⟩ := rx
    obtain ⟨t', rfl⟩ := ry
    have hz : (z.length == 0) = false := by simp; omega
    refine P.mul_str (by simp) (fun hh _ => absurd hh (by decide)) (fun _ _ => ?_) ?_
    · refine decide_eq_false ?_
      simp
    · rw [if_pos (by omega)]
      have e0 : repS z (0 : Int).toNat = Str.empty := rfl
      rw [e0] at q
      exact ⟨by decide, .str Str.empty, H, I.tok _, ⟨_, rfl⟩, q⟩
  · exact op_mulS pins s σ H x y v u Q I rx ry ⟨z, k, e1, e2, by omega, h2, h3, h4, q⟩
section
variable {Γ : Gm} {Ω : Om} {K : PySem.W.Frag} {ta tb : TE}
theorem ev_mulS0 {z : Str} {k : Int} (ha : Ev Γ Ω ta (S z)) (hb : Ev Γ Ω tb (I k)) (h : 0 ≤ k ∧ k ≤ 1000 ∧ 1 ≤ z.length ∧ z.length ≤ 1000) : Ev Γ Ω (tOp rMulS0 ta tb) (S (repS z k.toNat)) := ev_op ha hb fun F H v w s e e' Q q => by
  cases e
  cases e'
  exact ⟨z, k, rfl, rfl, h.1, h.2.1, h.2.2.1, h.2.2.2, q _ F H (Ext.refl _ _ _) s rfl⟩
end
end Y

namespace Y
open PySem L2 PySem.Spec
/-! ## signs of a text -/
theorem occ_sign (y : Str) (k : Nat) : (!(Builtin.Str.occurrences y ⟨#[k]⟩ 0 y.length 1).isEmpty) = decide (k ∈ y.cps.toList) := by
  rcases StrLaws.occ_head y ⟨#[k]⟩ 1 (Nat.le_refl 1) with ⟨h0, hn⟩ | ⟨i, r, h0, hi, hn⟩
  · rw [h0, decide_eq_false (fun hm => by
      obtain ⟨j, hj⟩ := List.getElem?_of_mem hm
      exact hn j ((StrLaws.subAt_one y k j).mpr hj))]
    rfl
  · rw [h0, decide_eq_true (List.mem_of_getElem? ((StrLaws.subAt_one y k i).mp hi))]
    rfl
section
variable {Γ : Gm} {Ω : Om} {K : PySem.W.Frag} {ta tb tl : TE}
theorem ev_inC {k : Nat} {y : Str} (ha : Ev Γ Ω ta (S ⟨#[k]⟩)) (hb : Ev Γ Ω tb (S y)) : Ev Γ Ω (tOp (fun x y H Q => ∃ i j, x = .str i ∧ y = .str j ∧ Q (.bl (!(Builtin.Str.occurrences j i 0 j.length 1).isEmpty)) H) ta tb) (B (decide (k ∈ y.cps.toList))) := ev_op ha hb fun F H x z s e e' Q q => by
  cases e; cases e'
  refine ⟨_, _, rfl, rfl, ?_⟩
  rw [occ_sign]
  exact q _ F H (Ext.refl _ _ _) s rfl
theorem ev_niC {k : Nat} {y : Str} (ha : Ev Γ Ω ta (S ⟨#[k]⟩)) (hb : Ev Γ Ω tb (S y)) : Ev Γ Ω (tOp (fun x y H Q => ∃ i j, x = .str i ∧ y = .str j ∧ Q (.bl (!(!(Builtin.Str.occurrences j i 0 j.length 1).isEmpty))) H) ta tb) (B (!decide (k ∈ y.cps.toList))) := ev_op ha hb fun F H x z s e e' Q q => by
  cases e; cases e'
  refine ⟨_, _, rfl, rfl, ?_⟩
  rw [occ_sign]
  exact q _ F H (Ext.refl _ _ _) s rfl
/-- for c in a text -/
theorem src_s {x : Str} (e : Ev Γ Ω tl (S x)) : Src Γ Ω (iStr tl) x.cps.toList (fun k => S ⟨#[k]⟩) := fun Z F H σ c R q => e Z F H σ c _ fun v F1 H1 c1 s1 rv => by
  cases rv
  refine ⟨x, rfl, q _ F1 H1 c1 s1 fun Z' F2 H2 σ2 Γ2 Ω2 c2 s2 => ?_⟩
  refine ⟨by rw [Array.length_toList]; exact Nat.le_refl _, fun i k hk => ?_⟩
  rw [Array.getElem?_toList] at hk
  refine ⟨(Array.getElem?_eq_some_iff.mp hk).1, fun v H3 hy => ?_⟩
  obtain ⟨e1, k2, e2, e3⟩ := hy
  rw [hk] at e2
  cases e2
  subst e1 e3
  exact ⟨F2, Ext.refl _ _ _, c2.sub, rfl⟩
/-- len(x), x a text that is not too long -/
theorem rc_lenT2 {x : Str} (h : x.length ≤ 100000) : RC (fun xs H Q => ∃ z : Str, xs = [.str z] ∧ z.length ≤ sizeLine ∧ Q (.int z.length) H) [S x] (I (x.length : Int)) := fun F H vs s hv Q q => by
  obtain ⟨v, rfl, e⟩ := hv.one
  cases e
  exact ⟨x, rfl, Nat.le_trans h (by decide), q _ F H (Ext.refl _ _ _) s rfl⟩
end
/-! ## the parts about a sign -/
theorem str_inj {a b : Str} (h : a.cps.toList = b.cps.toList) : a = b := by
  cases a; cases b
  exact congrArg Str.mk (Array.toList_inj.mp h)
theorem cps_app (a b : Str) : (a ++ b).cps.toList = a.cps.toList ++ b.cps.toList := by
  show (a.cps ++ b.cps).toList = _
  rw [Array.toList_append]
theorem len_cps (a : Str) : a.cps.toList.length = a.length := Array.length_toList
/-- partition about one sign -/
theorem part_none {x : Str} {k : Nat} (h : k ∉ x.cps.toList) : Txt.partition x ⟨#[k]⟩ = (x, Str.empty, Str.empty) := by
  unfold Txt.partition
  rcases StrLaws.occ_head x ⟨#[k]⟩ 1 (Nat.le_refl 1) with ⟨h0, hn⟩ | ⟨i, r, h0, hi, hn⟩
  · rw [h0]
  · exact absurd (List.mem_of_getElem? ((StrLaws.subAt_one x k i).mp hi)) h
theorem part_some {x : Str} {k : Nat} (h : k ∈ x.cps.toList) : ∃ a b : Str, Txt.partition x ⟨#[k]⟩ = (a, ⟨#[k]⟩, b) ∧ k ∉ a.cps.toList ∧ x.cps.toList = a.cps.toList ++ k :: b.cps.toList := by
  have hs := StrLaws.partition_sum x ⟨#[k]⟩
  rcases StrLaws.occ_head x ⟨#[k]⟩ 1 (Nat.le_refl 1) with ⟨h0, hn⟩ | ⟨i, r, h0, hi, hn⟩
  · obtain ⟨j, hj⟩ := List.getElem?_of_mem h
    exact absurd ((StrLaws.subAt_one x k j).mpr hj) (hn j)
  · have e : Txt.partition x ⟨#[k]⟩ = (Builtin.Str.strSub x 0 i, ⟨#[k]⟩, Builtin.Str.strSub x (i + 1) x.length) := by
      unfold Txt.partition
      rw [h0]; rfl
    rw [e] at hs
    refine ⟨_, _, e, fun hm => ?_, ?_⟩
    · rw [StrLaws.strSub_toList] at hm
      obtain ⟨j, hj⟩ := List.getElem?_of_mem hm
      have hl := (List.getElem?_eq_some_iff.mp hj).1
      rw [List.drop_zero, List.length_take] at hl
      rw [List.drop_zero, List.getElem?_take_of_lt (by omega)] at hj
      exact hn j (by omega) ((StrLaws.subAt_one x k j).mpr hj)
    · have e2 := congrArg (fun z : Str => z.cps.toList) hs
      dsimp only at e2
      rw [cps_app, cps_app] at e2
      rw [← e2, List.append_assoc]; rfl
end Y

namespace Y
open PySem L2 PySem.Spec
/-! ## a list's item put, things of any number that are owned -/
section
variable {Z : Bs} {F H : Hp} {σ : L2.St} {Γ : Gm} {Ω Ωr O : Om} {K : PySem.W.Frag} {te to ti ta : TE} {t : TA} {R : As} {Rs : List As} {p : Addr} {i j : Nat} {n : L2.St → Hp → Prop} {r : VK} {bk ct : L2.St → Hp → Prop}
/-- l[i] = e, l owned -/
theorem st_lset {x : Int} {k : Nat} (c : Ctx Z F H σ Γ Ω) (e : Ev Γ Ω te R) (h : Ev Γ Ω to (Rf p)) (hm : Ω[j]? = some (p, oL Rs)) (ei : Ev Γ Ω ti (I x)) (hk : ixN Rs.length x = some k) (kk : ∀ F' H', Ctx Z F' H' σ Γ (Ω.set j (p, oL (Rs.set k R))) → n σ H') (hw : Wr Z p) :
    tAsg te (gSub to ti rSetL) ⟨n, r, bk, ct⟩ σ H :=
  e Z F H σ c _ fun v F1 H1 c1 s1 rv => h Z F1 H1 σ c1 _ fun o F2 H2 c2 s2 ro => ei Z F2 H2 σ c2 _ fun y F3 H3 c3 s3 ry => by
    cases ro
    cases ry
    obtain ⟨_, ob, h2, xs, eo, hx⟩ := c3.own _ (List.mem_of_getElem? hm)
    subst eo
    dsimp only at h2
    refine ⟨p, xs, x, k, rfl, rfl, h2, by rw [hx.length]; exact hk, kk F3 _ (c3.chg hm ⟨_, rfl, ?_⟩ hw)⟩
    have rv3 : R.p F3 v := R.mono (s2.trans s3).fe rv
    refine All.of_get (by rw [List.length_set, List.length_set]; exact hx.length) fun m S z h1 h3 => ?_
    by_cases hmk : k = m
    · subst hmk
      have l1 := (List.getElem?_eq_some_iff.mp h1).1
      have l2 := (List.getElem?_eq_some_iff.mp h3).1
      rw [List.length_set] at l1 l2
      rw [List.getElem?_set_self l1] at h1
      rw [List.getElem?_set_self l2] at h3
      cases h1; cases h3
      exact rv3
    · rw [List.getElem?_set_ne hmk] at h1 h3
      obtain ⟨z', e1, e2⟩ := hx.get h1
      rw [e1] at h3
      cases h3
      exact e2
theorem peek_ctx (c : Ctx Z F H σ Γ Ω) (hm : Ω[j]? = some (p, oL Rs)) (hi : Γ[i]? = some (some (Rf p))) : ∃ (F1 : Hp) (Z1 : Bs), Ctx Z1 F1 H σ (Γ.set i (some (Ls K Rs))) (Ω.eraseIdx j) ∧ Same F F1 ∧
    ∀ F3 H3, Ext [] F1 H F3 H3 → Same F3 H3 → Ext [] F H (minus F3 p) H3 ∧ Same (minus F3 p) H3 ∧ ∃ xs, F3 p = some (.lst xs) := by
  obtain ⟨h1, o, h2, xs, eo, hx⟩ := c.own _ (List.mem_of_getElem? hm)
  subst eo
  dsimp only at h1 h2
  have s : Same F (upd F p (.lst xs)) := fun a u z => by rw [upd_ne (ne_of_none z h1)]; exact z
  have hsub : Same (upd F p (.lst xs)) H := fun a u z => by
    by_cases e : a = p
    · rw [e] at z ⊢; rw [upd_same] at z; rw [← z]; exact h2
    · rw [upd_ne e] at z; exact c.sub a u z
  have other : ∀ x ∈ Ω.eraseIdx j, x ∈ Ω ∧ x.1 ≠ p := fun x hx => by
    have hx' := List.mem_of_mem_eraseIdx hx
    refine ⟨hx', fun z => ?_⟩
    obtain ⟨k, hk⟩ := List.getElem?_of_mem hx
    rw [List.getElem?_eraseIdx] at hk
    split at hk
    · have a1 : (Ω.map (·.1))[k]? = some p := by rw [List.getElem?_map, hk, ← z]; rfl
      have a2 : (Ω.map (·.1))[j]? = some p := by rw [List.getElem?_map, hm]; rfl
      have := nd_ix c.nd a1 a2
      omega
    · have a1 : (Ω.map (·.1))[k + 1]? = some p := by rw [List.getElem?_map, hk, ← z]; rfl
      have a2 : (Ω.map (·.1))[j]? = some p := by rw [List.getElem?_map, hm]; rfl
      have := nd_ix c.nd a1 a2
      omega
  refine ⟨upd F p (.lst xs), ⟨upd F p (.lst xs), H, [], upd F p (.lst xs), (Ω.eraseIdx j).map (·.1)⟩, ?_, s, fun F3 H3 e3 s3 => ?_⟩
  · refine ⟨?_, hsub, fun x hx => ?_, ((List.eraseIdx_sublist Ω j).map _).nodup c.nd, fun x hx => .inr (.inr (List.mem_map.mpr ⟨x, hx, rfl⟩)), Ext.refl _ _ _, Same.refl _⟩
    · obtain ⟨v, e1, e2⟩ := (c.sat.mono s).get hi
      have e2 : v = .ref p := e2
      subst e2
      have z := (c.sat.mono s).set (R := Ls K Rs) (v := .ref p) ⟨p, xs, rfl, SqL.of upd_same, hx.mono s⟩ i
      rw [set_same e1] at z
      exact z
    · obtain ⟨hx1, hx2⟩ := other x hx
      obtain ⟨k1, o', k2, k3⟩ := c.own x hx1
      exact ⟨by rw [upd_ne hx2]; exact k1, o', k2, x.2.mono s k3⟩
  · have hp3 : F3 p = some (.lst xs) := e3.fe p _ upd_same
    refine ⟨⟨fun a u z => minus_get (e3.fe a u (s a u z)) (ne_of_none z h1), e3.fr, e3.dm, fun a g1 g2 => ?_⟩, fun a u z => ?_, xs, hp3⟩
    · unfold minus
      by_cases w : a = p
      · rw [if_pos w]
      · rw [if_neg w]
        exact e3.nw a g1 (by rw [upd_ne w]; exact g2)
    · unfold minus at z
      by_cases w : a = p
      · rw [if_pos w] at z; cases z
      · rw [if_neg w] at z; exact s3 a u z
/-- an owned list read as a frozen one by an expression whose value has no lists in it -/
theorem ev_peekI (hm : Ω[j]? = some (p, oL Rs)) (hi : Γ[i]? = some (some (Rf p))) (h : Ev (Γ.set i (some (Ls K Rs))) (Ω.eraseIdx j) te R) (hR : Ind0 R) : Ev Γ Ω te R := fun Z F H σ c Q q => by
  obtain ⟨F1, Z1, c1, s1, back⟩ := peek_ctx (K := K) c hm hi
  refine h Z1 F1 H σ c1 Q fun v F3 H3 c3 e3 rv => ?_
  obtain ⟨e4, s4, xs, hp3⟩ := back F3 H3 e3 c3.sub
  exact q v _ H3 (c.step e4 s4) e4 (hR F3 p xs v hp3 rv)
/-- something new that is made from an owned list, read as a frozen one -/
theorem nw_peek {A : OA} (hm : Ω[j]? = some (p, oL Rs)) (hi : Γ[i]? = some (some (Rf p))) (h : EvNw (Γ.set i (some (Ls K Rs))) (Ω.eraseIdx j) te A) (hA : IndO A) : EvNw Γ Ω te A := fun Z F H σ c Q q => by
  obtain ⟨F1, Z1, c1, s1, back⟩ := peek_ctx (K := K) c hm hi
  refine h Z1 F1 H σ c1 Q fun v F3 H3 c3 e3 hn => ?_
  obtain ⟨e4, s4, xs, hp3⟩ := back F3 H3 e3 c3.sub
  obtain ⟨k1, o, k2, k3⟩ := c3.own _ List.mem_cons_self
  dsimp only at k1 k2
  refine q v _ H3 (c.add e4 s4 (fun x hx => ?_) hn) e4 hn
  rw [List.mem_singleton.mp hx]
  refine ⟨?_, o, k2, hA F3 p xs o hp3 k3⟩
  show minus F3 p v = none
  unfold minus
  split
  · rfl
  · exact k1
/-- all that is new, frozen at once -/
theorem frz_new {F1 H1 F3 H3 : Hp} (e : Ext [] F1 H1 F3 H3) (s : Same F3 H3) (ow : Own F3 H3 O) (hn : ∀ x ∈ O.map (·.1), H1 x = none) : ∃ F4, Same F3 F4 ∧ Same F4 H3 ∧ Ext [] F1 H1 F4 H3 ∧ ∀ x ∈ O, ∃ o, F4 x.1 = some o ∧ x.2.p F4 o := by
  have s34 : Same F3 (fun a => if a ∈ O.map (·.1) then H3 a else F3 a) := fun a u z => by
    show (if a ∈ O.map (·.1) then H3 a else F3 a) = some u
    split
    · exact s a u z
    · exact z
  refine ⟨fun a => if a ∈ O.map (·.1) then H3 a else F3 a, s34, fun a u z => ?_, ⟨e.fe.trans s34, e.fr, e.dm, fun a g1 g2 => ?_⟩, fun x hx => ?_⟩
  · have z : (if a ∈ O.map (·.1) then H3 a else F3 a) = some u := z
    split at z
    · exact z
    · exact s a u z
  · show (if a ∈ O.map (·.1) then H3 a else F3 a) = none
    split
    · rename_i hm
      exact absurd (hn a hm) g1
    · exact e.nw a g1 g2
  · obtain ⟨_, o, h2, h3⟩ := ow x hx
    refine ⟨o, ?_, x.2.mono s34 h3⟩
    show (if x.1 ∈ O.map (·.1) then H3 x.1 else F3 x.1) = some o
    rw [if_pos (List.mem_map.mpr ⟨x, hx, rfl⟩)]
    exact h2
/-- f(e, ..), f hands out new things: all frozen at once -/
theorem ev_callGF {α β : Type} {args : α → List As} {pre : α → Prop} {post : α → β → Prop} {res : α → β → As} {Oo : α → β → Om} {E : XK} (a : α) (h : EvA Γ Ω t (args a)) (hp : pre a)
    (hf : ∀ b F F' v, post a b → (res a b).p F v → Same F F' → (∀ x ∈ Oo a b, ∃ o, F' x.1 = some o ∧ x.2.p F' o) → R.p F' v) : Ev Γ Ω (tCall (CtG args (fun _ => []) pre post res Oo) [] E t) R := fun Z F H σ c Q q =>
  h Z F H σ c _ fun vs F1 H1 c1 s1 rs => ⟨a, F1, c1.sub, by rw [List.append_nil]; exact rs, fun y hy => absurd hy List.not_mem_nil, List.nodup_nil, hp, fun b v F3 H3 hb e3 s3 rv ow nd hn => by
    obtain ⟨F4, s34, s4, e4, fr⟩ := frz_new e3 s3 ow (fun x hx => (hn x hx).elim (fun z => absurd z List.not_mem_nil) id)
    exact q v F4 H3 (c1.step e4 s4) (s1.trans e4) (hf b F3 F4 v hb rv s34 fr)⟩
end
end Y

namespace Y
open PySem L2 PySem.Spec
open PyProof.Rows
/-! ## own exceptions held as values -/
def tMkV (C : Addr) (sp : Sp) (ta : TA) : TE := fun σ H Q => ta σ H fun vs H1 => vs.length ≤ 1000 ∧ ∀ a, H1 a = none → sp (.ref a :: vs) (upd H1 a (exo a C none)) (fun v H2 => v = .non ∧ Q (.ref a) H2) (fun _ _ _ => False)
section
variable {X : Cx} {C : Addr} {x qual : Str} {st : Stmt} {ps : List Str} {sp : Sp} {k : Nat} {p pos : Pos} {e : Expr} {es : List Expr} {ta : TA} {te : TE}
theorem pe_mkV0 {CX : CXT} {fI : Addr} {fd : FuncData} (T : OexC X.K C) (iC : PySem.W.findIn X.K (.ref C) "__init__" = some (some (.ref fI))) (tI : PySem.W.typeIn X.K (.ref fI) = some (.type "function"))
    (F1 : FnOk X.prog X.w X.K X.mg X.base CX k fI fd ps sp) (hr : Room (k + 1) X.A) (hb : Binds X.K fd ps []) (hx : Passes CX X (fun _ _ _ => False)) (hg : Gl X x) (hm : X.mg x = some (.ref C)) (ha : PA X (e :: es) ta)
    (hdb : (x == ("__debug__" : Str)) = false := by decide) (he : starEach (e :: es) X.env = (false, eval e X.env) :: starEach es X.env := by rfl) (hpl : (backTo pos (starEach es X.env)).any (·.1) = false := by rfl) :
    PE X (.Call (.Name x p) (e :: es) [] pos) (tMkV C sp ta) := by
  refine ⟨fun pins s σ H Q I h => ?_⟩
  obtain ⟨nm, q, N, bs, bm, sn, sub, ab, col, dd, k0, k1, k2, k3, k5, hC, hbm⟩ := T.cls
  refine wpAny_Call_Name_kw (ld_glob I hg hm ?_ hdb)
  refine PySem.W.callWith_K (h₀ := X.base) I.ok.mod.kin T.kC (thn (ha.run pos pins s σ H _ I h) fun us s1 ⟨vs, H1, I1, r1, hz, q1⟩ => ⟨I1.kIn, ?_⟩) he hpl
  show wpAny _ _ (call (.ref C) us) _ _ _
  obtain ⟨hp, g, dr, tk, os⟩ := s1
  have hsz : hp.objs.size ≤ hp.objs.size + 1 := Nat.le_succ _
  have hn : H1 (hp.objs.size + 1) = none := I1.hok.fresh hsz
  have hq := q1 (hp.objs.size + 1) hn
  have kk : ∀ b o, hp.get? b = some o → ((hp.push (PySem.W.kdv_tup us)).push (PySem.HandSPX.excO C hp.objs.size)).get? b = some o := fun b o e => Heap.get?_push_of_some _ (Heap.get?_push_of_some _ e)
  have hget : ((hp.push (PySem.W.kdv_tup us)).push (PySem.HandSPX.excO C hp.objs.size)).get? (hp.objs.size + 1) = some (PySem.HandSPX.excO C hp.objs.size) := by heap_get
  have I2 := I1.laid (t' := tk) (a := hp.objs.size + 1) (o := exo (hp.objs.size + 1) C none) (h' := (hp.push (PySem.W.kdv_tup us)).push (PySem.HandSPX.excO C hp.objs.size)) kk hsz (exo_ok hget)
  have r2 : Vals (V.ref (hp.objs.size + 1) :: vs) (Value.ref (hp.objs.size + 1) :: us) := .cons rfl r1
  have hl : (Value.ref (hp.objs.size + 1) :: us ++ []).length = ps.length := by
    have e := r2.length
    rw [F1.len _ _ _ _ hq] at e
    rw [List.append_nil]
    exact e.symm
  have hus : us.length ≤ sizeLine := by
    rw [← PySem.Paired.length r1, sizeLine_eq]
    omega
  have b2 := hb _ (Value.ref (hp.objs.size + 1) :: us) I2.kIn hl
  rw [List.append_nil] at b2
  refine wpAny_call (PySem.HandSPX.call_own PySem.F.excBase_ValueError (fun Y => PySem.HandSPX.refsVE_contains Y bm hbm) (I1.kIn _ _ hC) (PySem.W.looks_findIn I1.kIn iC) (fun self => PySem.W.bind_fn I1.kIn self tI) hus
    (codeAny_mono (F1.run _ X.stack _ _ ⟨Value.ref (hp.objs.size + 1) :: us, []⟩ (Value.ref (hp.objs.size + 1) :: us) _ _ (fun _ _ _ => False) (hr.make C us []) (I2.env0.make C us []) b2 r2 hq) fun r s' hq' => ?_))
  cases r with
  | error er => exact hx pins σ _ _ er s' I2 hq'
  | ok fl =>
    cases fl with
    | ret u =>
      obtain ⟨v, H', I3, rv, ev, q3⟩ := I2.after hq'
      subst ev
      exact ⟨rv, ⟨V.ref (hp.objs.size + 1), H', I3, rfl, q3⟩⟩
    | next => exact False.elim hq'
    | brk => exact False.elim hq'
    | cont => exact False.elim hq'
theorem pe_mkV (T : Te X.K X.mg C x qual st ps) (D : De X.prog X.w X.K X.mg X.base k C ps sp) (hr : Room (k + 1) X.A) (hg : Gl X x) (ha : PA X (e :: es) ta)
    (hdb : (x == ("__debug__" : Str)) = false := by decide) (he : starEach (e :: es) X.env = (false, eval e X.env) :: starEach es X.env := by rfl) (hpl : (backTo pos (starEach es X.env)).any (·.1) = false := by rfl) :
    PE X (.Call (.Name x p) (e :: es) [] pos) (tMkV C sp ta) := by
  obtain ⟨f, fd, hi, ht, b, G⟩ := D.ex
  refine pe_mkV0 T.ox hi ht G hr b (fun pins σ H s e s' _ h => ?_) hg T.g ha hdb he hpl
  obtain ⟨_, _, _, _, _, _, _, _, _, _, _, _, z⟩ := h
  exact z.elim
theorem exv_inst {pins : List (Addr × Obj)} {s : Shared} {σ : L2.St} {H : Hp} {a dx : Addr} {fs : List (Str × V)} (I : L2.Inv X pins σ H s) (ea : H a = some (exo a C (some dx))) (ed : H dx = some (exd dx fs)) :
    ∃ (oe od : Obj) (mA : Str → Option Value), PySem.W.InstAt s.heap a oe C (some od) ∧ (∀ name, PySem.W.lookIn name od = some (mA name)) ∧ ∀ f, RelO (fs.lookup f) (mA f) := by
  obtain ⟨t0, hoe⟩ := exo_at I.hok ea
  obtain ⟨mA, hns, rel⟩ := exd_at I.hok ed
  obtain ⟨od, ho, hl⟩ := lookIn_ns hns
  exact ⟨_, od, mA, ⟨hoe, rfl, rfl, ho⟩, hl, rel⟩
def tXv (C : Addr) (n : Str) (te : TE) : TE := fun σ H Q => te σ H fun x H1 => ∃ (a dx : Addr) (fs : List (Str × V)) (v : V), x = .ref a ∧ H1 a = some (exo a C (some dx)) ∧ H1 dx = some (exd dx fs) ∧ fs.lookup n = some v ∧ Q v H1
/-- e.f, e an own exception -/
theorem pe_xv {n : Str} (T : XfC X.K C) (hno : PySem.W.findIn X.K (.ref C) n = some none) (he : PE X e te) (hb : attributeBase e n X.env (eval e X.env) = eval e X.env := by rfl) : PE X (.Attribute e n pos) (tXv C n te) := by
  refine ⟨fun pins s σ H Q I h => ?_⟩
  refine attr_of hb (thn (he.run pins s σ H _ I h) fun u s1 hh => ?_)
  obtain ⟨x, H1, I1, rx, a, dx, fs, v, ex, ea, ed, l, q⟩ := hh
  subst ex
  obtain rfl : u = Value.ref a := rx
  obtain ⟨oe, od, mA, J, hl, hr⟩ := exv_inst I1 ea ed
  obtain ⟨u, hu, ru⟩ := RelO.some_of (v := v) (o := mA n) (by rw [← l]; exact hr n)
  exact HandSPX.exc_get I1.kIn J T.ga T.gg T.exC (PySem.W.findObj_own T.hdC hno rfl (by rw [hl, hu])) (handed_of ru) ⟨v, H1, I1.tok _, ru, q⟩
/-- isinstance(e, c), e an own exception of some class -/
def rIsV (K : PySem.W.Frag) : List V → Hp → VK → Prop := fun xs H Q => ∃ (a D dx : Addr) (fs : List (Str × V)) (c : V) (cv : Value) (b : Bool), xs = [.ref a, c] ∧ H a = some (exo a D (some dx)) ∧ H dx = some (exd dx fs) ∧ ExcC K D ∧ (∀ u, RelV c u → u = cv) ∧ PySem.W.kitOne K (.ref D) cv = some b ∧ Q (.bl b) H
theorem call_isV : CallR X (.builtin "isinstance") (rIsV X.K) := by
  intro pins s σ H xs us Q I r h
  obtain ⟨a, D, dx, fs, c, cv, b, rfl, ea, ed, C, hcv, e, q⟩ := h
  obtain ⟨u1, u2, rfl, r1, r2⟩ := vals2 r
  cases (show u1 = Value.ref a from r1)
  have ec := hcv _ r2
  subst ec
  obtain ⟨oe, od, mA, J, _⟩ := exv_inst I ea ed
  exact PySem.W.kia_one (PySem.W.kitx_excD C.hg C.hk C.hs C.hd C.ha C.hn C.ht C.hm) I.kIn J e (fun z => nomatch z) fun tk => ⟨.bl b, H, I.kept (t' := tk) fun _ _ z => z, rfl, q⟩
end
/-- an own exception, its fields -/
def Ex (D : Addr) (fs : List (Str × As)) : As := ⟨fun F v => ∃ (a dx : Addr) (vs : List (Str × V)), v = .ref a ∧ F a = some (exo a D (some dx)) ∧ F dx = some (exd dx vs) ∧ AllF F fs vs, fun s h => by
  obtain ⟨a, dx, vs, e, h1, h2, h3⟩ := h
  exact ⟨a, dx, vs, e, s _ _ h1, s _ _ h2, h3.mono s⟩⟩
section
variable {Γ : Gm} {Ω : Om} {K : PySem.W.Frag} {ta : TA} {te : TE} {R R2 : As} {C D : Addr} {f g : Str} {fs : List (Str × As)}
theorem ev_mkV1 (ox : OexC K C) (hn : PySem.W.findIn K (.ref C) f = some none) (e : EvA Γ Ω ta [R]) : Ev Γ Ω (tMkV C (spX1 K C f) ta) (Ex C [(f, R)]) := fun Z F H σ c Q q =>
  e Z F H σ c _ fun vs F1 H1 c1 s1 rs => by
    obtain ⟨v, rfl, rv⟩ := rs.one
    refine ⟨by show 1 ≤ 1000; decide, fun a ha => ⟨a, v, rfl, ox, hn, upd_same, fun d hd hne => ⟨rfl, ?_⟩⟩⟩
    rw [upd_ne hne] at hd
    have eH : upd (upd (upd H1 a (exo a C none)) d (exd d [(f, v)])) a (exo a C (some d)) = upd (upd H1 d (exd d [(f, v)])) a (exo a C (some d)) := by
      funext b
      unfold upd
      by_cases h1 : b = a
      · rw [if_pos h1, if_pos h1]
      · rw [if_neg h1, if_neg h1, if_neg h1]
    rw [eH]
    obtain ⟨e1, s2⟩ := Ext.new (o := exd d [(f, v)]) c1.sub hd
    obtain ⟨e2, s3⟩ := Ext.new (p := a) (o := exo a C (some d)) s2 (by rw [upd_ne (Ne.symm hne)]; exact ha)
    refine q _ _ _ (c1.step (e1.trans e2) s3) (s1.trans (e1.trans e2)) ⟨a, d, [(f, v)], rfl, upd_same, ?_, rfl, R.mono (e1.trans e2).fe rv, trivial⟩
    rw [upd_ne hne]; exact upd_same
theorem ev_mkV2 (ox : OexC K C) (hn : PySem.W.findIn K (.ref C) f = some none) (hn2 : PySem.W.findIn K (.ref C) g = some none) (e : EvA Γ Ω ta [R, R2]) : Ev Γ Ω (tMkV C (spX2 K C f g) ta) (Ex C [(g, R2), (f, R)]) := fun Z F H σ c Q q =>
  e Z F H σ c _ fun vs F1 H1 c1 s1 rs => by
    obtain ⟨v, u, rfl, rv, ru⟩ := rs.two
    refine ⟨by show 2 ≤ 1000; decide, fun a ha => ⟨a, v, u, rfl, ox, hn, hn2, upd_same, fun d hd hne => ⟨rfl, ?_⟩⟩⟩
    rw [upd_ne hne] at hd
    have eH : upd (upd (upd (upd H1 a (exo a C none)) d (exd d [(f, v)])) a (exo a C (some d))) d (exd d [(g, u), (f, v)]) = upd (upd H1 d (exd d [(g, u), (f, v)])) a (exo a C (some d)) := by
      funext b
      unfold upd
      by_cases h1 : b = a
      · rw [if_neg (fun z => hne (z.symm.trans h1)), if_pos h1, if_pos h1]
      · rw [if_neg h1, if_neg h1, if_neg h1]
        by_cases h2 : b = d
        · rw [if_pos h2, if_pos h2]
        · rw [if_neg h2, if_neg h2, if_neg h2]
    rw [eH]
    obtain ⟨e1, s2⟩ := Ext.new (o := exd d [(g, u), (f, v)]) c1.sub hd
    obtain ⟨e2, s3⟩ := Ext.new (p := a) (o := exo a C (some d)) s2 (by rw [upd_ne (Ne.symm hne)]; exact ha)
    refine q _ _ _ (c1.step (e1.trans e2) s3) (s1.trans (e1.trans e2)) ⟨a, d, [(g, u), (f, v)], rfl, upd_same, ?_, rfl, R2.mono (e1.trans e2).fe ru, rfl, R.mono (e1.trans e2).fe rv, trivial⟩
    rw [upd_ne hne]; exact upd_same
theorem ev_xv (h : Ev Γ Ω te (Ex D fs)) (hl : fs.lookup f = some R) : Ev Γ Ω (tXv D f te) R := fun Z F H σ c Q q => h Z F H σ c _ fun v F1 H1 c1 s1 ⟨a, dx, vs, e, h1, h2, h3⟩ => by
  subst e
  obtain ⟨w, e1, e2⟩ := h3.get hl
  exact ⟨a, dx, vs, w, rfl, c1.sub _ _ h1, c1.sub _ _ h2, e1, q w F1 H1 c1 s1 e2⟩
theorem rc_isV {c : V} {cv : Value} {b : Bool} (hX : ExcC K D) (hc : ClsV c cv) (hk : PySem.W.kitOne K (.ref D) cv = some b) : RC (rIsV K) [Ex D fs, Cst c] (B b) := fun F H vs s hv Q q => by
  obtain ⟨v, w, rfl, rv, rw'⟩ := hv.two
  obtain ⟨a, dx, us, e, h1, h2, h3⟩ := rv
  have rw' : w = c := rw'
  subst e rw'
  exact ⟨a, D, dx, us, w, cv, b, rfl, s _ _ h1, s _ _ h2, hX, fun u hu => hc.eq hu, hk, q _ F H (Ext.refl _ _ _) s rfl⟩
end
end Y

namespace Y
open PySem L2 PySem.Spec
open PyProof.Rows
/-! ## methods with one default that is None, __init__ with one default that is a text -/
structure TmG (K : PySem.W.Frag) (C : Addr) (m qual : Str) (st : Stmt) (ps : List Str) : Prop where
  ex : ∃ f fd ds, FunD K m qual (defArgs st) (defBody st) (defScope st) [.non] [] f fd ∧ Meth K C m f ∧ Binds K fd ps [] ∧ Vals [V.non] ds ∧ Binds K fd ps ds
structure DmG (P : Program) (w : World) (K : PySem.W.Frag) (mg : Str → Option Value) (base : Heap) (k : Nat) (C : Addr) (m : Str) (ps : List Str) (sp : Sp) : Prop where
  dm : Dm P w K mg base k C m ps sp
  ex : ∃ f fd ds, Meth K C m f ∧ Vals [V.non] ds ∧ Binds K fd ps ds ∧ FnOk P w K mg base (L2N.CX P w) k f fd ps sp
section
variable {P : Program} {w : World} {K : PySem.W.Frag} {mg : Str → Option Value} {base : Heap} {C : Addr} {m qual : Str} {st : Stmt} {N ps : List Str} {k : Nat} {sp : Sp} {dvs : List V}
theorem TmG.okX (T : TmG K C m qual st ps) (S : FnScope N ps (defScope st)) (len : ∀ vs H Q E, sp vs H Q E → vs.length = ps.length)
    (hbody : ∀ (f : Addr) (cdv : Value) (A : Around) (outer : List Env) (s : Shared) (H : Hp) (vs : List V) (Q : VK) (E : XK), Room k (A.deeper (envOfC qual (defScope st) s.heap.objs.size f cdv)) → sp vs H Q E →
      ∃ t, PSs (cxOf (L2N.CX P w) P w K mg base N qual (defScope st) f cdv A outer s H E) (defBody st) t ∧ t { nx := fun _ H' => Q .non H', rt := Q } (L2.start N vs) H) : DmG P w K mg base (k + 1) C m ps sp := by
  obtain ⟨f, fd, ds, F, hm, b0, hv, b1⟩ := T.ex
  have G := F.ok (CX := L2N.CX P w) S len (hbody f)
  exact ⟨⟨f, fd, hm, b0, G⟩, f, fd, ds, hm, hv, b1, G⟩
theorem tm_mkG {f T : Addr} {o1 : Value} {o2 : Option Addr} {o4 : Array (Option Value)} {nn : Nat} {oc : Value} {od an : Option Addr} {osl : Array (Option Value)} {kV doc pm cdv ct : Value} {n : Nat} (a : PySem.W.findIn K (.ref C) m = some (some (.ref f))) (i : PySem.W.isFn K (.ref f) = true)
    (l : K.lookup f = some ⟨oc, od, .func (PySem.W.fnOf m qual (defArgs st) (defBody st) (defScope st) (.ref T) kV doc pm an cdv ct), osl⟩) (c : PySem.W.codeIn K cdv qual = true) (kk : PySem.W.keepIn K (.ref f) = true) (lT : K.lookup T = some ⟨o1, o2, .seq #[.none] nn, o4⟩)
    (hb : ∀ (T : Addr) (kV doc pm : Value) (an : Option Addr) (cdv ct : Value) (us its : List Value), us.length = ps.length → its.length = 1 →
      ∃ k, bindArgs (PySem.W.fnOf m qual (defArgs st) (defBody st) (defScope st) (.ref T) kV doc pm an cdv ct) ⟨us, []⟩ = seqItems? (.ref T) >>= k ∧ k (some its.toArray) = pure (ps.zip (us ++ its.drop 1)))
    (hn : n + 1 = ps.length)
    (hb1 : ∀ (T : Addr) (kV doc pm : Value) (an : Option Addr) (cdv ct : Value) (us its : List Value), us.length = n → its.length = 1 →
      ∃ k, bindArgs (PySem.W.fnOf m qual (defArgs st) (defBody st) (defScope st) (.ref T) kV doc pm an cdv ct) ⟨us, []⟩ = seqItems? (.ref T) >>= k ∧ k (some its.toArray) = pure (ps.zip (us ++ its.drop 0))) : TmG K C m qual st ps := by
  have F : FunD K m qual (defArgs st) (defBody st) (defScope st) [.non] [] f (PySem.W.fnOf m qual (defArgs st) (defBody st) (defScope st) (.ref T) kV doc pm an cdv ct) :=
    ⟨⟨oc, od, .ref T, kV, doc, pm, an, cdv, ct, osl, rfl, l, c, .inr ⟨(fun z => by cases z), T, _, [.none], nn, rfl, lT, rfl, .cons rfl .nil⟩, .inl rfl⟩, kk⟩
  obtain ⟨ds, hv, b⟩ := F.binds1 (ps := ps) ps.length 1 (fun z => by cases z) rfl hb
  have e : ds = [] := by cases hv; rfl
  rw [e] at b
  obtain ⟨ds1, hv1, b1⟩ := F.binds1 (ps := ps) n 0 (fun z => by cases z) hn hb1
  exact ⟨f, _, ds1, F, ⟨a, i, kk⟩, b, hv1, b1⟩
/-- __init__ with one default that is a text, left out -/
theorem ti_mk1s {f T : Addr} {d : Str} {tk : Tok} {o1 : Value} {o2 : Option Addr} {o4 : Array (Option Value)} {nn : Nat} {oc : Value} {od an : Option Addr} {osl : Array (Option Value)} {kV doc pm cdv ct : Value} {n : Nat} (a : PySem.W.findIn K (.ref C) "__init__" = some (some (.ref f))) (i : PySem.W.isFn K (.ref f) = true)
    (l : K.lookup f = some ⟨oc, od, .func (PySem.W.fnOf "__init__" qual (defArgs st) (defBody st) (defScope st) (.ref T) kV doc pm an cdv ct), osl⟩) (c : PySem.W.codeIn K cdv qual = true) (kk : PySem.W.keepIn K (.ref f) = true)
    (mk : PySem.W.makesIn K C = true) (kc : PySem.W.keepIn K (.ref C) = true) (lT : K.lookup T = some ⟨o1, o2, .seq #[.str d tk] nn, o4⟩) (hn : n + 1 = ps.length)
    (hb : ∀ (T : Addr) (kV doc pm : Value) (an : Option Addr) (cdv ct : Value) (us its : List Value), us.length = n → its.length = 1 →
      ∃ k, bindArgs (PySem.W.fnOf "__init__" qual (defArgs st) (defBody st) (defScope st) (.ref T) kV doc pm an cdv ct) ⟨us, []⟩ = seqItems? (.ref T) >>= k ∧ k (some its.toArray) = pure (ps.zip (us ++ its.drop 0))) : Ti K C qual st ps [.str d] := by
  have F : FunD K "__init__" qual (defArgs st) (defBody st) (defScope st) [.str d] [] f (PySem.W.fnOf "__init__" qual (defArgs st) (defBody st) (defScope st) (.ref T) kV doc pm an cdv ct) :=
    ⟨⟨oc, od, .ref T, kV, doc, pm, an, cdv, ct, osl, rfl, l, c, .inr ⟨(fun z => by cases z), T, _, [.str d tk], nn, rfl, lT, rfl, .cons ⟨tk, rfl⟩ .nil⟩, .inl rfl⟩, kk⟩
  obtain ⟨ds, hv, b⟩ := F.binds1 (ps := ps) n 0 (fun z => by cases z) hn hb
  exact ⟨f, _, ds, _, ⟨mk, a, i, kc⟩, F, hv, b⟩
/-- .. which the call gives -/
theorem ti_mk1sf {f T : Addr} {d : Str} {tk : Tok} {o1 : Value} {o2 : Option Addr} {o4 : Array (Option Value)} {nn : Nat} {oc : Value} {od an : Option Addr} {osl : Array (Option Value)} {kV doc pm cdv ct : Value} (a : PySem.W.findIn K (.ref C) "__init__" = some (some (.ref f))) (i : PySem.W.isFn K (.ref f) = true)
    (l : K.lookup f = some ⟨oc, od, .func (PySem.W.fnOf "__init__" qual (defArgs st) (defBody st) (defScope st) (.ref T) kV doc pm an cdv ct), osl⟩) (c : PySem.W.codeIn K cdv qual = true) (kk : PySem.W.keepIn K (.ref f) = true)
    (mk : PySem.W.makesIn K C = true) (kc : PySem.W.keepIn K (.ref C) = true) (lT : K.lookup T = some ⟨o1, o2, .seq #[.str d tk] nn, o4⟩)
    (hb : ∀ (T : Addr) (kV doc pm : Value) (an : Option Addr) (cdv ct : Value) (us its : List Value), us.length = ps.length → its.length = 1 →
      ∃ k, bindArgs (PySem.W.fnOf "__init__" qual (defArgs st) (defBody st) (defScope st) (.ref T) kV doc pm an cdv ct) ⟨us, []⟩ = seqItems? (.ref T) >>= k ∧ k (some its.toArray) = pure (ps.zip (us ++ its.drop 1))) : Ti K C qual st ps [] := by
  have F : FunD K "__init__" qual (defArgs st) (defBody st) (defScope st) [.str d] [] f (PySem.W.fnOf "__init__" qual (defArgs st) (defBody st) (defScope st) (.ref T) kV doc pm an cdv ct) :=
    ⟨⟨oc, od, .ref T, kV, doc, pm, an, cdv, ct, osl, rfl, l, c, .inr ⟨(fun z => by cases z), T, _, [.str d tk], nn, rfl, lT, rfl, .cons ⟨tk, rfl⟩ .nil⟩, .inl rfl⟩, kk⟩
  obtain ⟨ds, hv, b⟩ := F.binds1 (ps := ps) ps.length 1 (fun z => by cases z) rfl hb
  exact ⟨f, _, ds, _, ⟨mk, a, i, kc⟩, F, hv, b⟩
end
section
variable {X : Cx} {C : Addr} {m : Str} {ps : List Str} {sp : Sp} {k : Nat} {pos apos : Pos} {e o : Expr} {es : List Expr} {t : TA} {ta : TE} {W : WX}
/-- o.m(..), its default left out, in a try or a def that lets the error out -/
theorem pe_dmSG {pl : Sem Bool} (tk : Takes X W) (he : PE X o ta) (c : Cls X.K C) (D : DmG X.prog X.w X.K X.mg X.base k C m ps sp) (hr : Room k X.A) (ha : PA X (e :: es) t)
    (hst : starEach (e :: es) X.env = (false, eval e X.env) :: starEach es X.env := by rfl) (hpl : (backTo pos (starEach es X.env)).any (·.1) = false := by rfl)
    (ht : eval (.Call (.Attribute o m apos) (e :: es) [] pos) X.env = (do
      let ov ← eval o X.env
      standAt apos.atName
      let (f, first) ← holding [ov] (getMethod ov m pl)
      callWith pos f first (backTo pos (starEach (e :: es) X.env)) (backToKw pos (keywordEach [] X.env))) := by rfl) :
    PE X (.Call (.Attribute o m apos) (e :: es) [] pos) (tMethX C m (fun vs => sp (vs ++ [.non])) (WE W) ta t) := by
  obtain ⟨f, fd, ds, hm, hv, b, G⟩ := D.ex
  refine ⟨fun pins s σ H Q I h => ?_⟩
  refine PySem.W.methodCall_KW (pl := pl) (thn (he.run pins s σ H _ I h) fun u s1 ⟨x, H1, I1, rx, a, dx, fs, ex, ea, l, q⟩ => ?_) ht
  subst ex
  obtain rfl : u = Value.ref a := rx
  refine getmeth_ok I1 ea c hm l ?_
  refine PySem.W.callWith_K (first := [.ref a]) (h₀ := X.base) I.ok.mod.kin hm.kp (thn (ha.run pos pins s1 σ H1 _ I1 q) fun us s2 ⟨vs, H2, I2, r, q2⟩ => ⟨I2.kIn, ?_⟩) hst hpl
  exact run_fnSD (us := .ref a :: us) (vs := .ref a :: vs) G hr b hv (L2N.passAt tk σ) I2 (.cons rfl r) q2
end
/-! ## min(xs, default=None), xs a list of ints -/
def minO : List Int → Option Int
  | [] => none
  | y :: ys => some (ys.foldl min y)
def voI : Option Int → V
  | none => .non
  | some i => .int i
theorem foldl_min (ys : List Int) : ∀ y : Int, ys.foldl (fun a y => if decide (y < a) = true then y else a) y = ys.foldl min y := by
  induction ys with
  | nil => intro y; rfl
  | cons x xs ih =>
    intro y
    rw [List.foldl_cons, List.foldl_cons, ih]
    congr 1
    by_cases h : x < y
    · rw [if_pos (by simpa using h)]; omega
    · rw [if_neg (by simpa using h)]; omega
theorem foldl_min_le (ys : List Int) : ∀ y : Int, ys.foldl min y ≤ y ∧ ∀ z ∈ ys, ys.foldl min y ≤ z := by
  induction ys with
  | nil => intro y; exact ⟨Int.le_refl _, fun _ h => absurd h List.not_mem_nil⟩
  | cons x xs ih =>
    intro y
    rw [List.foldl_cons]
    obtain ⟨h1, h2⟩ := ih (min y x)
    refine ⟨by omega, fun z hz => ?_⟩
    rcases List.mem_cons.mp hz with e | e
    · subst e; omega
    · exact h2 z e
theorem foldl_min_mem (ys : List Int) : ∀ y : Int, ys.foldl min y ∈ y :: ys := by
  induction ys with
  | nil => intro y; exact List.mem_singleton.mpr rfl
  | cons x xs ih =>
    intro y
    rw [List.foldl_cons]
    rcases List.mem_cons.mp (ih (min y x)) with e | e
    · rw [e]
      by_cases h : x < y
      · rw [show min y x = x by omega]; exact List.mem_cons_of_mem _ List.mem_cons_self
      · rw [show min y x = y by omega]; exact List.mem_cons_self
    · exact List.mem_cons_of_mem _ (List.mem_cons_of_mem _ e)
theorem minO_le {ns : List Int} {m : Int} (h : minO ns = some m) : ∀ z ∈ ns, m ≤ z := by
  cases ns with
  | nil => cases h
  | cons y ys =>
    cases h
    intro z hz
    obtain ⟨h1, h2⟩ := foldl_min_le ys y
    rcases List.mem_cons.mp hz with e | e
    · rw [e]; exact h1
    · exact h2 z e
theorem minO_mem {ns : List Int} {m : Int} (h : minO ns = some m) : m ∈ ns := by
  cases ns with
  | nil => cases h
  | cons y ys => cases h; exact foldl_min_mem ys y
def rMinDn (K : PySem.W.Frag) : List V → List V → Hp → VK → Prop := fun vs zs H Q => ∃ (a : Addr) (ns : List Int), vs = [V.ref a] ∧ zs = [V.non] ∧ SqL K H a (ns.map V.int) ∧ Q (voI (minO ns)) H
theorem cr_minDn {X : Cx} (hc : X.calm = true) (hu : X.A.units + 64 < cLine) : CallRK X (.builtin "min") [Str.ofString "default"] (rMinDn X.K) := by
  intro pins s σ H vs zs us ws Q I r rz h
  obtain ⟨a, ns, rfl, rfl, hs, q⟩ := h
  obtain rfl := Vals.ref1 r
  obtain ⟨w1, rfl, e1⟩ := vals1 rz
  obtain rfl : w1 = Value.none := e1
  obtain ⟨its, rv, hl, _⟩ := I.list hs
  have hi := rv.ints
  obtain ⟨as, ra⟩ := ints_hold (h := s.heap) hi
  refine PySem.W.min_list_datum_default (α := Int) (xs := ns) (I.ok.hd hc) hl.isList ⟨as, ra⟩ (by show X.A.units + 1 + 0 < cLine; omega) (fun e h' tk hk => ?_) (fun y ys i v h' tk e _ hv hk => ?_)
  · subst e
    exact ⟨.non, H, I.kept hk, rfl, q⟩
  · subst e
    obtain ⟨bs, rd⟩ := hv
    obtain ⟨t', rfl⟩ : ∃ t', v = .int (PySem.W.minOf y ys) t' := by
      cases rd
      exact ⟨_, rfl⟩
    refine ⟨voI (minO (y :: ys)), H, I.kept hk, ⟨t', ?_⟩, q⟩
    show Value.int _ _ = Value.int _ _
    congr 1
    exact foldl_min ys y
theorem ev_minDn {Γ : Gm} {Ω : Om} {K : PySem.W.Frag} {ta tk : TA} {α : Type} {xs : List α} {g : α → Int} (ha : EvA Γ Ω ta [Ls K (xs.map fun x => I (g x))]) (hk : EvA Γ Ω tk [Nn]) : Ev Γ Ω (tCKw (rMinDn K) ta tk) (Op (fun n => I n) (minO (xs.map g))) := fun Z F H σ c Q q => ha Z F H σ c _ fun vs F1 H1 c1 s1 r1 => hk Z F1 H1 σ c1 _ fun zs F2 H2 c2 s2 r2 => by
  obtain ⟨v, rfl, a, ys, e, hs, hl⟩ := r1.one
  obtain ⟨z, rfl, e2⟩ := r2.one
  cases e
  cases e2
  have w := all_map hl
  subst w
  refine ⟨a, xs.map g, rfl, rfl, c2.sub.seq (s2.fe.seq hs), q _ F2 H2 c2 (s1.trans s2) ?_⟩
  cases xs.map g <;> rfl
/-- a text in a tuple of texts -/
theorem ev_inTupS {Γ : Gm} {Ω : Om} {K : PySem.W.Frag} {ta tb : TE} {x : Str} {xs : List Str} (neg : Bool) (ha : Ev Γ Ω ta (S x)) (hb : Ev Γ Ω tb (Tp K (xs.map fun x => S x))) : Ev Γ Ω (tOp (rIn K neg) ta tb) (B (if neg then !decide (x ∈ xs) else decide (x ∈ xs))) := fun Z F H σ c Q q =>
  ha Z F H σ c _ fun v F1 H1 c1 s1 rv => hb Z F1 H1 σ c1 _ fun w F2 H2 c2 s2 rw' => by
    cases rv
    obtain ⟨a, ys, e, h2, hl⟩ := rw'
    subst e
    have e := all_strV hl
    subst e
    refine ⟨a, _, rfl, .inr (same_seqT c2.sub h2), rfl, flat_strs, ?_⟩
    rw [in_strs]
    cases neg <;> exact q _ F2 H2 c2 (s1.trans s2) rfl
end Y

namespace Y
open PySem L2 PySem.Spec
open PyProof.Rows
/-! ## bool less bool; calls that hand out something owned -/
section
variable {X : Cx}
def rSubB : R2 := fun x y H Q => ∃ a b, x = .bl a ∧ y = .bl b ∧ Q (.int (b2i a - b2i b)) H
theorem op_subB : OpR X (binaryOp .Sub) rSubB := by
  intro pins s σ H x y v u Q I rx ry h
  obtain ⟨a, b, rfl, rfl, q⟩ := h
  cases (show v = Value.bool a from rx)
  cases (show u = Value.bool b from ry)
  exact sub_bool ⟨.int (b2i a - b2i b), H, I.tok _, ⟨_, rfl⟩, q⟩
end
section
variable {K : PySem.W.Frag} {Z : Bs} {F H : Hp} {σ : L2.St} {Γ Γ' : Gm} {Ω Ω' Ωr : Om} {ta tb te tf : TE} {tt : TT} {p dx C : Addr} {E : XK} {R : As} {Rs Ss : List As} {fs : List (Str × As)} {m f : Str} {j : Nat} {n : L2.St → Hp → Prop} {r : VK} {bk ct : L2.St → Hp → Prop}
theorem ev_subB {a b : Bool} (ha : Ev Γ Ω ta (B a)) (hb : Ev Γ Ω tb (B b)) : Ev Γ Ω (tOp rSubB ta tb) (I (b2i a - b2i b)) := ev_op ha hb fun F H v w s e e' Q q => ⟨a, b, e, e', q _ F H (Ext.refl _ _ _) s rfl⟩
/-- an expression that changes what is owned and may bring along something owned -/
def EvG {β : Type} (Z : Bs) (Γ : Gm) (Ω : Om) (te : TE) (P : β → Prop) (R : β → As) (Ω' : β → Om) : Prop := ∀ (F H : Hp) (σ : L2.St), Ctx Z F H σ Γ Ω → ∀ Q : VK, (∀ b v F' H', P b → Ctx Z F' H' σ Γ (Ω' b) → Same F F' → (R b).p F' v → Q v H') → te σ H Q
theorem eg_meth {α β : Type} {args : α → List As} {Oi : α → Om} {pre : α → Prop} {post : α → β → Prop} {res : α → β → As} {Oo : α → β → Om} {t : TA} (a : α) (ho : Ev Γ Ω ta (Rf p)) (hm : Ω[j]? = some (p, oI C dx fs)) (hn : fs.lookup m = none) (h : EvA Γ Ω t Rs) (ha : args a = Rf p :: Rs) (hs : Ω.Perm (Oi a ++ Ωr)) (hp : pre a)
    (hw : ∀ x ∈ (Oi a).map (·.1), Wr Z x) : EvG Z Γ Ω (tMeth C m (CtG args Oi pre post res Oo) [] E ta t) (post a) (res a) (fun b => Oo a b ++ Ωr) := fun F H σ c Q k =>
  ho Z F H σ c _ fun x F1 H1 c1 s1 rx => by
    cases rx
    obtain ⟨_, o, h2, vs, eo, hf⟩ := c1.own _ (List.mem_of_getElem? hm)
    subst eo
    refine ⟨p, dx, vs, rfl, h2, hf.none hn, h Z F1 H1 σ c1 _ fun ws F2 H2 c2 s2 rs => ?_⟩
    have cp := c2.perm hs
    have nd := cp.nd
    rw [List.map_append, List.nodup_append] at nd
    refine ⟨a, F2, c2.sub, ?_, cp.own.sub fun x hx => List.mem_append_left _ hx, nd.1, hp, fun b v F3 H3 hb e3 s3 rv ow nd2 hn2 => k b v F3 H3 hb (cp.changedG e3 s3 ow nd2 hn2 hw) ((s1.trans s2).fe.trans e3.fe) rv⟩
    rw [ha, List.append_nil]
    exact ⟨rfl, rs⟩
theorem eg_call {α β : Type} {args : α → List As} {pre : α → Prop} {post : α → β → Prop} {res : α → β → As} {Oo : α → β → Om} {t : TA} (a : α) (h : EvA Γ Ω t (args a)) (hp : pre a) : EvG Z Γ Ω (tCall (CtG args (fun _ => []) pre post res Oo) [] E t) (post a) (res a) (fun b => Oo a b ++ Ω) := fun F H σ c Q k =>
  h Z F H σ c _ fun vs F1 H1 c1 s1 rs => by
    refine ⟨a, F1, c1.sub, by rw [List.append_nil]; exact rs, fun x hx => absurd hx List.not_mem_nil, List.nodup_nil, hp, fun b v F3 H3 hb e3 s3 rv ow nd2 hn2 => k b v F3 H3 hb (Ctx.changedG (Ωi := []) c1 e3 s3 ow nd2 hn2 (fun x hx => absurd hx List.not_mem_nil)) (s1.fe.trans e3.fe) rv⟩
theorem eg_is {β : Type} {P : β → Prop} {R R' : β → As} {Ω' Ω2 : β → Om} (h : EvG Z Γ Ω te P R Ω') (e1 : ∀ b, R b = R' b) (e2 : ∀ b, Ω' b = Ω2 b) : EvG Z Γ Ω te P R' Ω2 := fun F H σ c Q k => h F H σ c Q fun b v F1 H1 hb c1 s1 rv => k b v F1 H1 hb (e2 b ▸ c1) s1 (e1 b ▸ rv)
theorem eg_set {β : Type} {P : β → Prop} {R : β → As} {Ω' : β → Om} {i : Nat} (c : Ctx Z F H σ Γ Ω) (e : EvG Z Γ Ω te P R Ω') (k : ∀ b F' H' σ', P b → Ctx Z F' H' σ' (Γ.set i (some (R b))) (Ω' b) → Same F F' → n σ' H') : tAsg te (gName i) ⟨n, r, bk, ct⟩ σ H := e F H σ c _ fun b v F1 H1 hb c1 s1 rv => k b F1 H1 _ hb (c1.set i rv) s1
theorem eg_drop {β : Type} {P : β → Prop} {R : β → As} {Ω' : β → Om} (c : Ctx Z F H σ Γ Ω) (e : EvG Z Γ Ω te P R Ω') (k : ∀ b F' H', P b → Ctx Z F' H' σ Γ (Ω' b) → Same F F' → n σ H') : tDrop te ⟨n, r, bk, ct⟩ σ H := e F H σ c _ fun b v F1 H1 hb c1 s1 rv => k b F1 H1 hb c1 s1
theorem eg_ret {β : Type} {P : β → Prop} {R : β → As} {Ω' : β → Om} (c : Ctx Z F H σ Γ Ω) (e : EvG Z Γ Ω te P R Ω') (k : ∀ b v F' H', P b → Ctx Z F' H' σ Γ (Ω' b) → Same F F' → (R b).p F' v → r v H') : tRet te ⟨n, r, bk, ct⟩ σ H := e F H σ c _ k
theorem eg_app {β : Type} {P : β → Prop} {R : β → As} {Ω' : β → Om} {q : Addr} {j2 : Nat} (c : Ctx Z F H σ Γ Ω) (h : Ev Γ Ω ta (Rf q)) (hm : Ω[j]? = some (q, oL Rs)) (e : EvG Z Γ Ω te P R Ω') (hm2 : ∀ b, P b → (Ω' b)[j2]? = some (q, oL Rs)) (hl : Rs.length ≤ 100000) (k : ∀ b F' H', P b → Ctx Z F' H' σ Γ ((Ω' b).set j2 (q, oL (Rs ++ [R b]))) → Same F F' → n σ H') (hw : Wr Z q) :
    tDrop (tBM K "list" rAppend ta (tCons te tNil)) ⟨n, r, bk, ct⟩ σ H :=
  h Z F H σ c _ fun v F1 H1 c1 s1 rv => by
    cases rv
    obtain ⟨_, o, h2, xs, eo, hx⟩ := c1.own _ (List.mem_of_getElem? hm)
    refine ⟨.inl ⟨rfl, _, SqL.of (by rw [h2, eo])⟩, ?_⟩
    refine e F1 H1 σ c1 _ fun b y F2 H2 hb c2 s2 ry => ?_
    obtain ⟨_, o, h2, xs, eo, hx⟩ := c2.own _ (List.mem_of_getElem? (hm2 b hb))
    refine ⟨q, xs, y, rfl, rfl, by rw [h2, eo], ?_, ?_⟩
    · rw [hx.length]
      exact Nat.lt_of_le_of_lt hl (by decide)
    · exact k b F2 _ hb (c2.chg (hm2 b hb) ⟨_, rfl, hx.app ⟨ry, trivial⟩⟩ hw) (s1.fe.trans s2)
theorem eg_ext {β : Type} {P : β → Prop} {Ss : β → List As} {Ω' : β → Om} {q : Addr} {j2 : β → Nat} (c : Ctx Z F H σ Γ Ω) (h : Ev Γ Ω ta (Rf q)) (hm : Ω[j]? = some (q, oL Rs)) (e : EvG Z Γ Ω te P (fun b => Lh (Ss b)) Ω') (hm2 : ∀ b, P b → (Ω' b)[j2 b]? = some (q, oL Rs)) (hl : ∀ b, P b → Rs.length + (Ss b).length ≤ 100000) (k : ∀ b F' H', P b → Ctx Z F' H' σ Γ ((Ω' b).set (j2 b) (q, oL (Rs ++ Ss b))) → Same F F' → n σ H') (hw : Wr Z q) :
    tDrop (tBM K "list" rExtend ta (tCons te tNil)) ⟨n, r, bk, ct⟩ σ H :=
  h Z F H σ c _ fun v F1 H1 c1 s1 rv => by
    cases rv
    obtain ⟨_, o, h2, xs, eo, hx⟩ := c1.own _ (List.mem_of_getElem? hm)
    refine ⟨.inl ⟨rfl, _, SqL.of (by rw [h2, eo])⟩, ?_⟩
    refine e F1 H1 σ c1 _ fun b y F2 H2 hb c2 s2 ry => ?_
    obtain ⟨a, zs, ey, ha, hz⟩ := ry
    subst ey
    obtain ⟨_, o, h2, xs, eo, hx⟩ := c2.own _ (List.mem_of_getElem? (hm2 b hb))
    refine ⟨q, a, xs, zs, rfl, rfl, by rw [h2, eo], c2.sub _ _ ha, ?_, ?_⟩
    · rw [hx.length, hz.length]
      exact Nat.le_trans (hl b hb) (by decide)
    · exact k b F2 _ hb (c2.chg (hm2 b hb) ⟨_, rfl, hx.app hz⟩ hw) (s1.fe.trans s2)
theorem eg_cat {β : Type} {P : β → Prop} {Ss : β → List As} {Ω' : β → Om} {q : Addr} {j2 : β → Nat} (h : Ev Γ Ω ta (Rf q)) (e : EvG Z Γ Ω tb P (fun b => Lh (Ss b)) Ω') (hm2 : ∀ b, P b → (Ω' b)[j2 b]? = some (q, oL Rs)) (hl : ∀ b, P b → Rs.length + (Ss b).length ≤ 100000) : EvG Z Γ Ω (tOp rCat ta tb) P (fun b => Ls K (Rs ++ Ss b)) Ω' := fun F H σ c Q k =>
  h Z F H σ c _ fun v F1 H1 c1 s1 rv => by
    cases rv
    refine e F1 H1 σ c1 _ fun b y F2 H2 hb c2 s2 ry => ?_
    obtain ⟨a, zs, ey, ha, hz⟩ := ry
    subst ey
    obtain ⟨_, o, h2, xs, eo, hx⟩ := c2.own _ (List.mem_of_getElem? (hm2 b hb))
    refine ⟨q, a, xs, zs, rfl, rfl, by rw [h2, eo], c2.sub _ _ ha, ?_, fun p hp => ?_⟩
    · rw [hx.length, hz.length]
      exact Nat.le_trans (hl b hb) (by decide)
    · obtain ⟨e3, s3⟩ := Ext.new (o := .lst (xs ++ zs)) c2.sub hp
      exact k b (.ref p) _ _ hb (c2.step e3 s3) (s1.fe.trans (s2.trans e3.fe)) ⟨p, xs ++ zs, rfl, SqL.of upd_same, (hx.app hz).mono e3.fe⟩
/-- a tuple with something new and owned in it -/
theorem eg_tup {A : OA} {Rs : Addr → List As} {t : TA} (h : EvAn Γ Ω t Rs A) (hl : ∀ p, (Rs p).length ≤ 1000) : EvG Z Γ Ω (tTup t) (fun (_ : Addr) => True) (fun p => Tp K (Rs p)) (fun p => (p, A) :: Ω) := fun F H σ c Q q =>
  h Z F H σ c _ fun p vs F1 H1 c1 s1 hp rs => ⟨by rw [rs.length]; exact Nat.le_of_lt (small1000 (hl p)), fun a ha => by
    obtain ⟨e, s⟩ := Ext.new (o := .tup vs) c1.sub ha
    exact q p (.ref a) _ _ trivial (c1.step e s) (s1.fe.trans e.fe) ⟨a, vs, rfl, SqT.of upd_same, rs.mono e.fe⟩⟩
end
end Y

namespace Y
open PySem L2 PySem.Spec
open PyProof.Rows
/-! ## reversed(list); comprehensions whose items bring along something owned -/
section
variable {K : PySem.W.Frag} {Z : Bs} {F H : Hp} {σ : L2.St} {Γ Γ' : Gm} {Ω Ω' Ωr : Om} {ta tb te tf : TE} {tt : TT} {p dx C : Addr} {E : XK} {R : As} {Rs Ss : List As} {fs : List (Str × As)} {m f : Str} {j : Nat} {n : L2.St → Hp → Prop} {r : VK} {bk ct : L2.St → Hp → Prop}
theorem src_rev {α : Type} {xs : List α} {f : α → As} {ta : TA} (e : EvA Γ Ω ta [Ls K (xs.map f)]) : Src Γ Ω (iRev K ta) xs.reverse f := fun Z F H σ c R q => e Z F H σ c _ fun vs F1 H1 c1 s1 rv => by
  obtain ⟨v, rfl, a, ys, ea, hs, hl⟩ := rv.one
  subst ea
  have hly : ys.length = xs.length := by rw [hl.length, List.length_map]
  refine ⟨a, ys, rfl, c1.sub.seq hs, q _ F1 H1 c1 s1 fun Z' F2 H2 σ2 Γ2 Ω2 c2 s2 => ?_⟩
  have hs2 := c2.sub.seq (s2.seq hs)
  refine ⟨by show ys.length ≤ xs.reverse.length; rw [List.length_reverse]; exact Nat.le_of_eq hly, fun i x hx => ?_⟩
  have hi := (List.getElem?_eq_some_iff.mp hx).1
  rw [List.length_reverse] at hi
  rw [List.getElem?_reverse hi] at hx
  have hz : (xs.map f)[xs.length - 1 - i]? = some (f x) := by rw [List.getElem?_map, hx]; rfl
  obtain ⟨y, ey, ry⟩ := hl.get hz
  rw [← hly] at ey
  refine ⟨⟨by omega, ys, y, hs2, ey⟩, fun v H3 hy => ?_⟩
  obtain ⟨e1, e2⟩ := hy
  subst e1
  have := e2 ys hs2
  rw [ey] at this
  cases this
  exact ⟨F2, Ext.refl _ _ _, c2.sub, (f x).mono s2 ry⟩
theorem eg_ifT {β : Type} {P : β → Prop} {R : β → As} {Ω' : β → Om} (h : EvT Γ Ω tt true) (h1 : EvG Z Γ Ω ta P R Ω') : EvG Z Γ Ω (tIf tt ta tb) P R Ω' := fun F H σ c Q q => h Z F H σ c _ fun F1 H1 c1 s1 => iteT (h1 F1 H1 σ c1 Q fun b v F2 H2 hb c2 s2 r2 => q b v F2 H2 hb c2 (s1.fe.trans s2) r2)
theorem eg_ifF {β : Type} {P : β → Prop} {R : β → As} {Ω' : β → Om} (h : EvT Γ Ω tt false) (h1 : EvG Z Γ Ω tb P R Ω') : EvG Z Γ Ω (tIf tt ta tb) P R Ω' := fun F H σ c Q q => h Z F H σ c _ fun F1 H1 c1 s1 => iteF (h1 F1 H1 σ c1 Q fun b v F2 H2 hb c2 s2 r2 => q b v F2 H2 hb c2 (s1.fe.trans s2) r2)
/-- a comprehension whose items bring along something owned -/
theorem eg_lcF {α ι : Type} {wi : TI} {xs : List α} {f : α → As} {g : TG} {vs : List Nat} (G' : α → Gm) (Rl : ι → List As) (O : ι → Om) (P : Nat → ι → Prop) {ws : List Nat} (i0 : ι) (e : Src Γ Ω wi xs f) (p0 : P 0 i0) (r0 : Rl i0 = []) (o0 : O i0 = []) (hg : ∀ x, Gt (wipeG Γ vs) (f x) g (G' x) ws) (hw : ∀ i ∈ ws, i ∈ vs)
    (he : ∀ k x i D, xs[k]? = some x → P k i → EvG Z (G' x) ((D, oL (Rl i)) :: (O i ++ Ω)) te (fun b : ι × As => P (k + 1) b.1 ∧ Rl b.1 = Rl i ++ [b.2]) (fun b => b.2) (fun b => (D, oL (Rl i)) :: (O b.1 ++ Ω))) (hlR : ∀ k i, P k i → (Rl i).length ≤ k) (hlen : xs.length ≤ 100000) :
    EvG Z Γ Ω (tLc wi g tYes te vs) (fun b : Addr × ι => P xs.length b.2) (fun b => Rf b.1) (fun b => (b.1, oL (Rl b.2)) :: (O b.2 ++ Ω)) := fun F H σ c Q q =>
  e Z F H σ c _ fun J F1 H1 c1 s1 src => by
    intro D hD
    have hZD : Z.H D = none := c1.ext.dm _ hD
    have cw : Ctx Z F1 H1 (L2.wipe σ vs) (wipeG Γ vs) Ω := c1.slots (c1.sat.wipe vs)
    let Pv : Nat → Hp → Prop := (fun k H' => ∃ i F', P k i ∧ Ctx Z F' H' (L2.wipe σ vs) (wipeG Γ vs) ((D, oL (Rl i)) :: (O i ++ Ω)) ∧ Same F1 F')
    have st : Pv 0 (upd H1 D (.lst [])) := by
      refine ⟨i0, F1, p0, ?_, Same.refl _⟩
      rw [r0, o0]
      exact cw.grow hD ⟨[], rfl, trivial⟩
    refine ⟨fun i m H => m = xs.length - i ∧ i ≤ xs.length ∧ Pv i H, ⟨_, rfl, Nat.zero_le _, st⟩, ?_⟩
    rintro k m Hc ⟨rfl, hkn, i, F', hp, cc, sF⟩
    rcases Nat.lt_or_eq_of_le hkn with hk | hk
    · have hx : xs[k]? = some xs[k] := List.getElem?_eq_getElem hk
      obtain ⟨go, yl⟩ := (src Z F' _ _ _ _ cc sF).2 k xs[k] hx
      refine .inr ⟨go, Pv (k + 1), fun H' p' => ⟨xs.length - (k + 1), by omega, rfl, hk, p'⟩, fun y H' hy => ?_⟩
      obtain ⟨F0, e0, s0, ry⟩ := yl y H' hy
      have cA := cc.step e0 s0
      refine hg xs[k] Z F0 _ (L2.wipe σ vs) y _ cA ry _ fun σ2 c2 hσ => ⟨(hσ vs hw).trans (wipe_wipe σ vs), ?_⟩
      refine et_yes Z F0 _ σ2 c2 _ fun F3 H3 c3 e3 => iteT ?_
      refine he k xs[k] i D hx hp F3 H3 σ2 c3 _ fun b w F4 H4 hb c4 s4 rw' => ?_
      obtain ⟨hb1, hb2⟩ := hb
      obtain ⟨_, o, h2, acc, eo, hx4⟩ := c4.own _ List.mem_cons_self
      subst eo
      have hl := hlR k i hp
      refine ⟨acc, h2, ?_, b.1, F4, hb1, ?_, sF.trans (e0.fe.trans (e3.fe.trans s4))⟩
      · rw [hx4.length]
        exact Nat.lt_of_le_of_lt (Nat.le_trans hl (Nat.le_of_lt (Nat.lt_of_lt_of_le hk hlen))) (by decide)
      · have c5 := c4.chg (j := 0) (A' := oL (Rl b.1)) rfl ⟨acc ++ [w], rfl, by rw [hb2]; exact hx4.app ⟨rw', trivial⟩⟩ (.inr hZD)
        exact c5.slots (cc.sat.mono (e0.fe.trans (e3.fe.trans s4)))
    · subst hk
      refine .inl ⟨(src Z F' _ _ _ _ cc sF).1, ?_⟩
      exact q (D, i) (.ref D) F' _ hp (cc.slots (c1.sat.mono sF)) (s1.fe.trans sF) rfl
end
end Y

namespace Y
open PySem L2 PySem.Spec
open PyProof.Rows
/-! ## text.isdigit(), sorted of tuples by their first whole numbers -/
def rIsDig : V → List V → Hp → VK → Prop := fun x xs H Q => ∃ a : Str, x = .str a ∧ xs = [] ∧ True ∧ Q (.bl (Txt.isdigit a)) H
section
variable {K : PySem.W.Frag} {Γ : Gm} {Ω : Om} {ta : TE}
theorem ev_isdig {x : Str} (ha : Ev Γ Ω ta (S x)) : Ev Γ Ω (tBM0 K "str" rIsDig ta) (B (Txt.isdigit x)) := fun Z F H σ c Q q =>
  ha Z F H σ c _ fun v F1 H1 c1 s1 rv => by
    cases rv
    exact ⟨rfl, x, rfl, rfl, trivial, q _ F1 H1 c1 s1 rfl⟩
end
theorem pe_bm0Z {X : Cx} {K : PySem.W.Frag} {o : Expr} {to : TE} {name : Str} {apos cpos : Pos} {T id : String} {r : V → List V → Hp → VK → Prop} (hK : X.K = K) (pa : PlainAttrs T) (slot : Slot T name id) (hty : typeOf (.builtin id) = pure (.type "method_descriptor")) (hm : MtR X id r) (ho : PE X o to)
    (hbase : attributeBase o name X.env (eval o X.env) = eval o X.env := by rfl) (hline : (apos.endLine == cpos.line) = true := by rfl) : PE X (.Call (.Attribute o name apos) [] [] cpos) (tBM0 K T r to) := by
  have h := pe_bm0 (apos := apos) (cpos := cpos) pa slot hty hm ho hbase hline
  rw [hK] at h
  exact h
section
variable {prog : Program} {w : World} {A : Around} {E : Value → Shared → Prop} {s : Shared}
def IsTupF (h : Heap) (v : Value) (x : Int) : Prop := ∃ a o t rest n, v = .ref a ∧ h.get? a = some o ∧ o.cls = .type "tuple" ∧ o.data = .seq (Value.int x t :: rest).toArray n
theorem IsTupF.keeps {h h' : Heap} {v : Value} {x : Int} (p : IsTupF h v x) (k : ∀ b o, h.get? b = some o → o.cls = .type "tuple" → h'.get? b = some o) : IsTupF h' v x := by
  obtain ⟨a, o, t, rest, n, e, ho, hc, hd⟩ := p
  exact ⟨a, o, t, rest, n, e, k _ _ ho hc, hc, hd⟩
theorem firstsF {h : Heap} {k : Value → Int} : ∀ {vs : List Value}, (∀ v ∈ vs, IsTupF h v (k v)) → ∃ fs : List Value, PySem.W.KatTups h vs fs ∧ fs.length = vs.length ∧ ∀ f ∈ fs, ∃ x t, f = Value.int x t
  | [], _ => ⟨[], PySem.W.KatTups.nil, rfl, fun _ hm => by simp at hm⟩
  | v :: vs, hp => by
    obtain ⟨fs, h1, h2, h3⟩ := firstsF (vs := vs) fun v' hm => hp v' (List.mem_cons_of_mem _ hm)
    obtain ⟨a, o, t, rest, n, e, ho, hc, hd⟩ := hp v List.mem_cons_self
    generalize k v = x at hd
    subst e
    refine ⟨.int x t :: fs, PySem.W.KatTups.cons ho hc hd rfl h1, by rw [List.length_cons, List.length_cons, h2], fun f hm => ?_⟩
    rcases List.mem_cons.mp hm with z | hm
    · subst z; exact ⟨x, t, rfl⟩
    · exact h3 f hm
theorem kat_self {b fin : Bool} {Q : Bool → Shared → Prop} : ∀ (l : List Value) (i : Nat), Q fin s → PySem.W.KatLex prog w A b fin Q (l.zip l) i s
  | [], i, h => PySem.W.kat_nil h
  | v :: l, i, h => PySem.W.kat_cons (SeqAt.EqAt.same v prog w _ _ (PySem.W.kat_yes (kat_self l (i + 1) h)))
theorem tupF_cmp {vs : List Value} {k : Value → Int} (hp : ∀ v ∈ vs, IsTupF s.heap v (k v)) (hk : ∀ v ∈ vs, ∀ u ∈ vs, k v = k u → v = u) : SrtO.Cmp prog w A s (tuples' true) (fun p => p.1 ∈ vs) (SrtO.lt2 fun v u => decide (k v < k u)) := by
  intro p q hm hm'
  have h1 := hp _ hm
  have h2 := hp _ hm'
  show wpAny (model prog w) A (keyLt' (tuples' true) p.1 q.1) (fun r s' => s' = s ∧ r = decide (k p.1 < k q.1)) (fun _ _ => False) s
  by_cases e : k p.1 = k q.1
  · have ev := hk _ hm _ hm' e
    rw [← ev]
    obtain ⟨a, o, t, rest, n, e1, ho, hc, hd⟩ := h1
    generalize k p.1 = x at hd ⊢
    rw [e1]
    refine PySem.W.kat_lt ho hd ho hd (kat_self _ _ ⟨rfl, ?_⟩)
    simp
  · generalize k p.1 = x at h1 e ⊢
    generalize k q.1 = x' at h2 e ⊢
    obtain ⟨a, o, t, rest, n, e1, ho, hc, hd⟩ := h1
    obtain ⟨a', o', t', rest', n', e1', ho', hc', hd'⟩ := h2
    rw [e1, e1']
    refine PySem.W.kat_lt ho hd ho' hd' ?_
    show PySem.W.KatLex prog w A true _ _ ((.int x t, .int x' t') :: rest.zip rest') 0 s
    refine PySem.W.kat_cons (SeqAt.EqAt.int_int x t x' t' prog w _ _ ?_)
    refine PySem.W.kat_go (fun e1 => ?_) (fun e1 => ?_)
    · exact absurd (show x = x' by simpa using e1) e
    · exact PySem.W.kat_no (oneLt_int ⟨rfl, rfl⟩)
theorem tupF_sortable {a : Addr} {vs : List Value} {k : Value → Int} (h0 : 0 < vs.length) (hp : ∀ v ∈ vs, IsTupF s.heap v (k v)) (hk : ∀ v ∈ vs, ∀ u ∈ vs, k v = k u → v = u) (ha : ∀ o, s.heap.get? a = some o → o.cls ≠ .type "tuple") : SrtO.SortableO prog w A s a vs fun v u => decide (k v < k u) := by
  intro h' keep
  have hp' : ∀ v ∈ vs, IsTupF h' v (k v) := fun v hm => (hp v hm).keeps fun b o e c => keep b o (fun z => by subst z; exact ha o e c) e
  obtain ⟨fs, h1, h2, h3⟩ := firstsF hp'
  refine ⟨tuples' true, fun Q E hq => ?_, tupF_cmp hp' hk⟩
  refine PySem.W.kat_kind (T := .type "int") h1 (by omega) (fun f hm => ?_) (by rfl) ?_
  · obtain ⟨x, t, rfl⟩ := h3 f hm
    exact PySem.W.Looks.now
  · have e : (Value.type "int" != Value.type "tuple") = true := by first | decide +kernel | rfl | decide
    rw [e]
    exact hq
theorem swoF {α : Type} (k : α → Int) : SrtO.Swo fun v u : α => decide (k v < k u) := by
  refine ⟨fun x y h => ?_, fun x y z h1 h2 => ?_⟩
  · have a := of_decide_eq_true h
    exact decide_eq_false (by omega)
  · have a := of_decide_eq_false h1
    have b := of_decide_eq_false h2
    exact decide_eq_false (by omega)
theorem sorted_tupF {l : Addr} {vs : List Value} {k : Value → Int} {Q : Value → Shared → Prop} (hl : s.heap.IsList l vs.toArray) (hz : vs.length ≤ sizeLine) (hp : ∀ v ∈ vs, IsTupF s.heap v (k v)) (hk : ∀ v ∈ vs, ∀ u ∈ vs, k v = k u → v = u)
    (h : ∀ (h' : Heap) (d : Addr) (out : List Value), SrtO.Srtd (fun v u => decide (k v < k u)) out → SrtO.Stb (fun v u => decide (k v < k u)) out vs → (∀ b o, s.heap.get? b = some o → h'.get? b = some o) → s.heap.objs.size ≤ d → (∃ n, h'.get? d = some (seqObj "list" out.toArray n)) → Q (.ref d) { s with heap := h' }) :
    wpAny (model prog w) A (call (.builtin "sorted") [.ref l]) Q E s := by
  refine SrtO.sorted_ord (swoF k) hl hz (fun h2 h₁ a ha kk => ?_) fun out hs hb => ?_
  · refine tupF_sortable (s := { s with heap := h₁ }) (by omega) (fun v hm => (hp v hm).keeps fun b o e _ => (kk b o e).2) hk fun o e => ?_
    have e' : some o = some (seqObj "list" vs.toArray 0) := e.symm.trans ha
    cases e'
    intro c
    exact absurd (Value.type.inj c) (by decide)
  · exact h _ _ out hs hb (fun b o e => sortedAll_old e) (Nat.le_succ _) (sortedAll_at s.heap vs out.toArray)
end
def rSortedF (K : PySem.W.Frag) : List V → Hp → VK → Prop := fun vs H Q => ∃ (a : Addr) (xs : List V) (ks : List Int), vs = [V.ref a] ∧ SqL K H a xs ∧ ks.length = xs.length ∧ (∀ (i : Nat) (x : V) (n : Int), xs[i]? = some x → ks[i]? = some n → ∃ t r, x = V.ref t ∧ SqT K H t (.int n :: r)) ∧ ks.Nodup ∧
  ∀ (zs : List (V × Int)) p, zs.Perm (xs.zip ks) → (zs.map Prod.snd).Pairwise (· < ·) → H p = none → Q (.ref p) (upd H p (.lst (zs.map Prod.fst)))
theorem cr_sortedF {X : Cx} : CallR X (.builtin "sorted") (rSortedF X.K) := by
  intro pins s σ H vs us Q I r h
  obtain ⟨a, xs, ks, rfl, hs, hlk, hx, hnd, q⟩ := h
  obtain ⟨its, rv, hl, hz⟩ := I.list hs
  obtain ⟨u, rfl, ru⟩ := vals1 r
  obtain rfl : u = Value.ref a := ru
  have hks : ∀ i : Nat, i < xs.length → ∃ n, ks[i]? = some n := fun i hi => ⟨_, List.getElem?_eq_getElem (by omega)⟩
  obtain ⟨k, hk⟩ : ∃ k : V → Int, ∀ (i : Nat) (x : V) (n : Int), xs[i]? = some x → ks[i]? = some n → k x = n := by
    classical
    refine ⟨fun y => if h : ∃ (n : Int) (i : Nat), xs[i]? = some y ∧ ks[i]? = some n then Classical.choose h else 0, fun i x n hxi hki => ?_⟩
    have h : ∃ (n : Int) (i : Nat), xs[i]? = some x ∧ ks[i]? = some n := ⟨n, i, hxi, hki⟩
    dsimp only
    rw [dif_pos h]
    obtain ⟨j, g1, g2⟩ := Classical.choose_spec h
    obtain ⟨t1, r1, e1, s1⟩ := hx _ _ _ g1 g2
    obtain ⟨t2, r2, e2, s2⟩ := hx _ _ _ hxi hki
    rw [e1] at e2
    cases e2
    have := I.tuple_inj s1 s2
    exact V.int.inj (List.cons.inj this).1
  have hzip : xs.map (fun x => (x, k x)) = xs.zip ks := by
    refine List.ext_getElem? fun i => ?_
    rw [List.getElem?_map]
    by_cases hi : i < xs.length
    · obtain ⟨n, hn⟩ := hks i hi
      have hxi : xs[i]? = some xs[i] := List.getElem?_eq_getElem hi
      have hz2 : (xs.zip ks)[i]? = some (xs[i], n) := List.getElem?_zip_eq_some.mpr ⟨hxi, hn⟩
      rw [hxi, hz2, Option.map_some, hk i _ _ hxi hn]
    · rw [List.getElem?_eq_none (by omega), List.getElem?_eq_none (by rw [List.length_zip]; omega)]; rfl
  have hkm : xs.map k = ks := by
    have := congrArg (List.map Prod.snd) hzip
    rw [List.map_map, List.map_snd_zip (by omega)] at this
    exact this
  have href : ∀ x ∈ xs, ∃ a, x = V.ref a := fun x m => by
    obtain ⟨i, hi⟩ := List.getElem?_of_mem m
    obtain ⟨n, hn⟩ := hks i (List.getElem?_eq_some_iff.mp hi).1
    obtain ⟨t, r, e, _⟩ := hx i x n hi hn
    exact ⟨t, e⟩
  obtain ⟨e1, e2⟩ := refs_back rv href
  have hmem : ∀ v ∈ its, backV v ∈ xs := fun v hv => by rw [e1]; exact List.mem_map.mpr ⟨_, hv, rfl⟩
  refine sorted_tupF (k := fun u => k (backV u)) hl.isList (by rw [← rv.length]; exact hz) (fun v hv => ?_) (fun v hv u hu e => ?_) fun h' d out h1 h2 kp hd hn => ?_
  · have hm := hmem v hv
    obtain ⟨t, rfl⟩ := e2 v hv
    have hm : V.ref t ∈ xs := hm
    obtain ⟨i, hi⟩ := List.getElem?_of_mem hm
    obtain ⟨n0, hn0⟩ := hks i (List.getElem?_eq_some_iff.mp hi).1
    obtain ⟨t', r, e, ht⟩ := hx _ _ _ hi hn0
    cases e
    have ek := hk _ _ _ hi hn0
    obtain ⟨its2, r2, ⟨o, ho, hc, n, hd⟩, _⟩ := I.tuple ht
    cases r2 with
    | cons r3 r4 =>
      obtain ⟨t1, e3⟩ := r3
      subst e3
      show IsTupF s.heap (Value.ref t) (k (V.ref t))
      rw [ek]
      exact ⟨t, o, t1, _, n, rfl, ho, hc, hd⟩
  · obtain ⟨i, hi⟩ := List.getElem?_of_mem (hmem v hv)
    obtain ⟨j, hj⟩ := List.getElem?_of_mem (hmem u hu)
    have hki : ks[i]? = some (k (backV v)) := by rw [← hkm, List.getElem?_map, hi]; rfl
    have hkj : ks[j]? = some (k (backV u)) := by rw [← hkm, List.getElem?_map, hj]; rfl
    have e : k (backV v) = k (backV u) := e
    rw [← e] at hkj
    have := nd_ix hnd hki hkj
    subst this
    rw [hi] at hj
    have e3 := Option.some.inj hj
    obtain ⟨t, rfl⟩ := e2 v hv
    obtain ⟨t', rfl⟩ := e2 u hu
    have e3 : V.ref t = V.ref t' := e3
    cases e3
    rfl
  · have h3 : ∀ u ∈ out, ∃ a, u = Value.ref a := fun u hu => e2 u (h2.perm.mem_iff.mp hu)
    obtain ⟨n, hn⟩ := hn
    have hb : (out.map backV).Perm xs := by
      rw [e1]
      exact h2.perm.map backV
    have hzz : ((out.map backV).map fun x => (x, k x)).map Prod.fst = out.map backV := by rw [List.map_map]; exact List.map_id _
    have hzs : ((out.map backV).map fun x => (x, k x)).map Prod.snd = (out.map backV).map k := by rw [List.map_map]; rfl
    have hpw : ((out.map backV).map k).Pairwise (· < ·) := by
      have nd : ((out.map backV).map k).Nodup := by
        have := (hb.map k).nodup_iff
        rw [hkm] at this
        exact this.mpr hnd
      rw [List.pairwise_map, List.pairwise_map]
      rw [List.nodup_iff_pairwise_ne, List.pairwise_map, List.pairwise_map] at nd
      refine (h1.and nd).imp fun {x y} h => ?_
      have := of_decide_eq_false h.1
      have := h.2
      omega
    have fin := q ((out.map backV).map fun x => (x, k x)) d (by rw [← hzip]; exact hb.map _) (by rw [hzs]; exact hpw) (I.hok.fresh hd)
    rw [hzz] at fin
    refine ⟨.ref d, upd H d (.lst (out.map backV)), I.laid (t' := s.toks) kp hd ⟨?_, out, n, vals_back h3, hn⟩, rfl, fin⟩
    rw [hb.length_eq]
    exact hz
section
variable {K : PySem.W.Frag}
theorem all_perm3 {α : Type} {F : Hp} {f : α → As} {κ : α → Int} {vs ws : List (V × Int)} (h : vs.Perm ws) : ∀ {xs : List α}, All F (xs.map f) (vs.map Prod.fst) → xs.map κ = vs.map Prod.snd → ∃ zs : List α, zs.Perm xs ∧ All F (zs.map f) (ws.map Prod.fst) ∧ zs.map κ = ws.map Prod.snd := by
  induction h with
  | nil => intro xs h e; exact ⟨xs, List.Perm.refl _, h, e⟩
  | cons v _ ih =>
    intro xs h e
    cases xs with
    | nil => exact h.elim
    | cons x xs =>
      rw [List.map_cons, List.map_cons, List.cons.injEq] at e
      obtain ⟨zs, p, a, b⟩ := ih h.2 e.2
      exact ⟨x :: zs, p.cons x, ⟨h.1, a⟩, by rw [List.map_cons, List.map_cons, e.1, b]⟩
  | swap v u l =>
    intro xs h e
    match xs, h, e with
    | x :: y :: xs, h, e =>
      simp only [List.map_cons, List.cons.injEq] at e
      exact ⟨y :: x :: xs, List.Perm.swap x y xs, ⟨h.2.1, h.1, h.2.2⟩, by simp only [List.map_cons, e.1, e.2.1, e.2.2]⟩
  | trans _ _ ih1 ih2 =>
    intro xs h e
    obtain ⟨zs, p, a, b⟩ := ih1 h e
    obtain ⟨us, p2, a2, b2⟩ := ih2 a b
    exact ⟨us, p2.trans p, a2, b2⟩
/-- sorted(xs) of tuples with distinct whole numbers ahead -/
theorem rc_sortF {α : Type} {xs : List α} {f : α → As} {κ : α → Int} {Rs : α → List As} (hf : ∀ a, f a = Tp K (I (κ a) :: Rs a)) (hn : (xs.map κ).Nodup) : RC (rSortedF K) [Ls K (xs.map f)] (Xs (fun zs : List α => zs.Perm xs ∧ (zs.map κ).Pairwise (· < ·)) (fun zs => Ls K (zs.map f))) := fun F H vs s h Q q => by
  obtain ⟨v, rfl, a, ys, ea, hs, hl⟩ := h.one
  subst ea
  have hsz : ys.length = xs.length := by rw [hl.length, List.length_map]
  have hlk : (xs.map κ).length = ys.length := by rw [List.length_map, hsz]
  refine ⟨a, ys, xs.map κ, rfl, s.seq hs, hlk, fun i y n hy hi => ?_, hn, fun zs p hb ho hp => ?_⟩
  · rw [List.getElem?_map] at hi
    obtain ⟨x, hx, e⟩ := Option.map_eq_some_iff.mp hi
    obtain ⟨y', e1, r1⟩ := hl.get (i := i) (R := f x) (by rw [List.getElem?_map, hx]; rfl)
    rw [hy] at e1
    cases e1
    rw [hf] at r1
    obtain ⟨t, us, e2, h1, h2⟩ := r1
    cases us with
    | nil => exact h2.elim
    | cons z us =>
      have e3 : z = V.int (κ x) := h2.1
      subst e3 e
      exact ⟨t, us, e2, same_seqT s h1⟩
  · obtain ⟨us, pu, au, bu⟩ := all_perm3 (f := f) (κ := κ) (F := F) hb.symm (xs := xs) (by rw [List.map_fst_zip (by omega)]; exact hl) (by rw [List.map_snd_zip (by omega)])
    obtain ⟨e, s2⟩ := Ext.new (o := .lst (zs.map Prod.fst)) s hp
    exact q (.ref p) _ _ e s2 ⟨us, ⟨pu, by rw [bu]; exact ho⟩, p, _, rfl, SqL.of upd_same, au.mono e.fe⟩
end
/-! ## a, b, .. = a list -/
def gTupL (K : PySem.W.Frag) (n : Nat) (t : TGs) : TG := fun v σ H Q => ∃ a xs, v = .ref a ∧ SqL K H a xs ∧ xs.length = n ∧ t xs σ H Q
theorem pg_lst {X : Cx} {es : List Expr} {k : Nat} {pos : Pos} {t : TGs} {n : Nat} (hc : X.calm = true) (h : PGs X es t)
    (hn : (assignEach es X.env).length = n := by rfl) (hst : (assignEach es X.env).findIdx? (·.1) = none := by rfl) : PG X (.Tuple es k pos) (gTupL X.K n t) := by
  refine ⟨fun pins s σ H v u Q I r hw => ?_⟩
  obtain ⟨a, xs, e1, hq, hl, hw⟩ := hw
  subst e1
  cases r
  obtain ⟨its, rv, ht, hz⟩ := I.list hq
  rw [arm_assign_Tuple]
  refine wpAny_bind (wpAny_standAt ?_)
  unfold unpack
  have hn' : (assignEach es X.env).length = its.toArray.size := by rw [hn, ← hl, rv.length]; simp
  rw [hn', hst]
  refine wpAny_bind (wpAny_holding (PySem.W.kun_itemsOf (I.ok.hd hc) ht.isList fun h' hx => ?_))
  have I1 : Inv X pins σ H { s with heap := h' } := I.kept (t' := s.toks) fun b o e => hx b o (Nat.ne_of_lt (Heap.lt_size e)) e
  exact h.run pins _ σ H xs _ Q I1 (by simpa using rv) hw
theorem gt_tupL {K : PySem.W.Frag} {Γ Γ' : Gm} {n : Nat} {t : TGs} {Rs : List As} {ws : List Nat} (h : Gts Γ Rs t Γ' ws) (hn : Rs.length = n := by rfl) : Gt Γ (Ls K Rs) (gTupL K n t) Γ' ws := fun Z F H σ v Ω c r Q q => by
  obtain ⟨a, xs, e, hs, hl⟩ := r
  exact ⟨a, xs, e, c.sub.seq hs, hl.length.trans hn, h Z F H σ xs Ω c hl Q q⟩
end Y

namespace Y
open PySem L2 PySem.Spec
open PyProof.Rows
/-! ## a comprehension whose element may raise -/
section
variable {X : Cx}
/-- what a call in the element let out goes on out of the comprehension -/
theorem blk_pass {E : XK} {pins pins' : List (Addr × Obj)} {s3 s1 : Shared} {σ σ' : L2.St} {H3 H1 : Hp} {scope : Scope} {ce : Env} {fp : List Addr} {xe : Value → Shared → Prop}
    (hs : X.stack = X.env :: X.outer) (hf : X.env.frame = some X.env.locals) (tk : L2N.Takes X (fun cls d _ H => E cls d H))
    (I3 : Inv X pins σ H3 s3) (f3 : ∀ b ∈ fp, FpOk X pins H3 b) (hcf : ce.frame = X.env.frame) (cL : ce.locals = s3.heap.objs.size)
    (I1 : Inv ((X.blk s3 H3 scope ce fp).wish xe) pins' σ' H1 s1) {u : Value} {s' : Shared} (c : L2N.CX X.prog X.w X.stack H1 s1 E u s') :
    notedBy (model X.prog X.w) X.A ce (CompFails (model X.prog X.w) X.A X.xe ce) u s' := by
  obtain ⟨a, B, H2, cls, d, rfl, fl, hok, ub, na, os, ag, hE⟩ := c
  obtain ⟨G, g1, g2⟩ := restrict s'.heap fun b => (B.get? b).isSome || decide (b ∈ frs X.stack)
  have st : B.StaysIn s'.heap := fl.1
  have gB : ∀ b o, B.get? b = some o → G.get? b = some o := fun b o e => by
    rw [g1 b (by simp [e])]
    exact st b o e
  have gF : ∀ b, b ∈ frs X.stack → G.get? b = s'.heap.get? b := fun b hb => g1 b (by simp [hb])
  have og : ∀ b o, G.get? b = some o → s'.heap.get? b = some o ∧ ((B.get? b).isSome = true ∨ b ∈ frs X.stack) := fun b o e => by
    cases q : ((B.get? b).isSome || decide (b ∈ frs X.stack)) with
    | false => rw [g2 b q] at e; cases e
    | true =>
      rw [g1 b q] at e
      exact ⟨e, by simpa [Bool.or_eq_true] using q⟩
  obtain ⟨sI, esI⟩ : ∃ sI : Shared, sI = { s1 with heap := G, gens := s'.gens, drawn := s'.drawn, toks := s'.toks } := ⟨_, rfl⟩
  have hsI : sI.heap = G := by rw [esI]
  have J : Inv ((X.blk s3 H3 scope ce fp).wish xe) pins' σ' H2 sI := by
    rw [esI]
    refine I1.call (ch := []) ⟨fun b o e n hb _ => gB b o (ub.keep b o e n hb), fun b o e n hb _ => ?_, fun b o e n _ => ub.free b o e n, fun b o e _ => ?_, ub.tups, ub.frzs, ub.tbls⟩ (hok.kept gB) ag (fun _ z => nomatch z)
    · obtain ⟨sl, q⟩ := ub.slot b o e hb
      exact ⟨sl, by rw [gF b hb]; exact q⟩
    · by_cases hb : b ∈ frs X.stack
      · obtain ⟨sl, q⟩ := ub.slot b o e hb
        exact ⟨_, by rw [gF b hb]; exact q⟩
      · obtain ⟨o', q⟩ := ub.there b o e hb
        exact ⟨o', gB b o' q⟩
  have nb : ∀ b o, sI.heap.get? b = some o → b ∉ frs X.stack → B.get? b = some o := fun b o e hb => by
    rw [hsI] at e
    obtain ⟨e', h⟩ := og b o e
    rcases h with h | h
    · obtain ⟨o', q⟩ := Option.isSome_iff_exists.mp h
      have z := st b o' q
      rw [e'] at z; cases z
      exact q
    · exact absurd h hb
  have up0 : sI.heap.UpToSlots s'.heap := Heap.UpToSlots.of_keeps fun b o e => by rw [hsI] at e; exact (og b o e).1
  have I7 : Inv X pins σ H2 sI := I3.call' (ch := fp) J.os J.base J.hok J.bare fun b hb => ⟨(f3 b hb).2.2.2.1, (f3 b hb).2.1, (f3 b hb).2.2.2.2.1, (f3 b hb).2.2.2.2.2⟩
  obtain ⟨C, eC⟩ : ∃ C, ce.locals = C := ⟨_, rfl⟩
  have nC : H2 C = none := by
    have z : H2 ce.locals = none := J.free
    rw [eC] at z
    exact z
  obtain ⟨m, hnC, _⟩ := J.loc
  have hnC : sI.heap.Ns ce.locals m := hnC
  rw [eC] at hnC cL
  have fC : FpOk X pins H2 C := I3.fpOk (Nat.le_of_eq cL.symm) nC
  have hfr : X.A.frames = some (X.env :: X.outer) := by rw [I3.ok.frames, hs]
  have fl' : HandSPX.FlyingZ B (X.env :: X.outer) a (L2N.Zn cls d) s'.heap := by rw [← hs]; exact fl
  show wpAny (model X.prog X.w) X.A (noteFrame (.ref a) ce) _ _ s'
  rw [noteFrame_env _ hcf]
  refine PXN.looks_onZ L2N.Zn.steady hfr hf fl' fun h1 hh1 up1 => ?_
  obtain ⟨b1, b0, f1, t1⟩ := hh1
  have hn1 : h1.Ns C m := hnC.upToSlots fun b o e hnf => (up0.trans up1) b o e hnf
  refine ⟨m, by rw [eC]; exact hn1, fun h2 m2 hn2 sb => ?_⟩
  rw [eC] at hn2 sb
  have sb : Heap.SameBut C h1 h2 := sb
  have hn2' := hn2
  obtain ⟨oC, es, ep, hoC, hdC, _⟩ := hn2
  obtain ⟨B2, k1, k2⟩ := restrict h2 fun b => (B.get? b).isSome
  have kB : ∀ b o, b ≠ C → B.get? b = some o → B2.get? b = some o := fun b o hb e => by
    rw [k1 b (by rw [e]; rfl), sb.2 b hb]
    exact b1 b o e
  have kN : ∀ b, B.get? b = none → B2.get? b = none := fun b e => k2 b (by rw [e]; rfl)
  have stB2 : B2.StaysIn h2 := fun b o e => by
    cases q : (B.get? b).isSome with
    | false => rw [k2 b q] at e; cases e
    | true => rw [k1 b q] at e; exact e
  have hbC : ∃ o, B.get? C = some o := by
    obtain ⟨o, _, _, e, _⟩ := hnC
    have hnf : C ∉ frs X.stack := fun z => by
      rcases List.mem_cons.mp (I3.stkSub C z) with y | y
      · exact fC.2.1 y
      · exact fC.2.2.1 y
    exact ⟨o, nb C o e hnf⟩
  have kC : B2.get? C = some oC := by
    obtain ⟨o, e⟩ := hbC
    rw [k1 C (by rw [e]; rfl)]
    exact hoC
  obtain ⟨oe, vs, T, oT, ts, he, hz, hd, hv1, hnT, hTe, hT, hdT, h3⟩ := t1
  obtain ⟨oC1, es1, ep1, hoC1, hdC1, _⟩ := hn1
  have haC : a ≠ C := fun z => by
    rw [z, hoC1] at he
    cases he
    rw [hdC1] at hd
    cases hd
  have hTC : T ≠ C := fun z => by
    rw [z, hoC1] at hT
    cases hT
    rw [hdC1] at hdT
    cases hdT
  have he2 : h2.get? a = some oe := (sb.2 a haC).trans he
  have hT2 : h2.get? T = some oT := (sb.2 T hTC).trans hT
  have ff2 : h2.FunFrames B2 (X.env :: X.outer) := by
    have z := Heap.FunFrames.sameBut sb hn2' f1
    refine funFrames_none z fun L hL => kN L ?_
    exact (f1.mem hL).1
  have hh2 : HandSPX.HeldZ B2 (X.env :: X.outer) a (L2N.Zn cls d) X.env.locals h2 := ⟨stB2, kN a b0, ff2, oe, vs, T, oT, ts, he2, hz, hd, hv1, kN T hnT, hTe, hT2, hdT, h3⟩
  unfold PySem.passOn
  refine wpAny_bind (wpAny_field he2 hd hv1 ?_)
  rw [if_neg (show ¬ ((Value.ref T == Value.none) = true) from by simp)]
  rw [hcf, hf]
  refine wpAny_bind (HandSPX.setFlight_onZ (s := { s' with heap := h2 }) hh2 fun h4 hh4 up4 => wpAny_throw (tk _ _ ?_))
  obtain ⟨oG, _, _, eG, _⟩ := hnC
  have G2C : (sI.heap.update C fun _ => oC).get? C = some oC := Heap.get?_update_self (fun _ => oC) eG (Heap.get?_some_iff.mp hoC).2
  have G2o : ∀ b, b ≠ C → (sI.heap.update C fun _ => oC).get? b = sI.heap.get? b := fun b hb => Heap.get?_update_other _ _ (Ne.symm hb)
  refine ⟨a, B2, { sI with heap := sI.heap.update C fun _ => oC }, pins, σ, H2, cls, d, rfl, ?_, fun b o e hb => ?_, fun b o e hnf => ?_, .inr (.inr (by rw [hs]; exact hh4)), na, by rw [esI]; exact os, ag, hE⟩
  · exact I7.turned (t' := sI.toks) (fun b o hb e => by rw [G2o b hb]; exact e) fC.1 fC.2.1 fC.2.2.2.1 fC.2.2.2.2.1 fC.2.2.2.2.2
  · by_cases q : b = C
    · subst q
      have e : (sI.heap.update b fun _ => oC).get? b = some o := e
      rw [G2C] at e
      cases e
      exact kC
    · have e : (sI.heap.update C fun _ => oC).get? b = some o := e
      rw [G2o b q] at e
      exact kB b o q (nb b o e hb)
  · by_cases q : b = C
    · subst q
      have e : (sI.heap.update b fun _ => oC).get? b = some o := e
      rw [G2C] at e
      cases e
      exact up4 b oC hoC hnf
    · have e : (sI.heap.update C fun _ => oC).get? b = some o := e
      rw [G2o b q] at e
      obtain ⟨sl, e2⟩ := (up0.trans up1) b o e hnf
      have e3 : h2.get? b = some { o with slots := sl } := (sb.2 b q).trans e2
      obtain ⟨sl2, e4⟩ := up4 b _ e3 hnf
      exact ⟨sl2, e4⟩
theorem lc_coreE {E : XK} {pins : List (Addr × Obj)} {s : Shared} {σ : L2.St} {H : Hp} {Q : VK} {use : Option (Value → Sem Unit)} {Qf : Value → Shared → Prop} {pos' : Pos} {elt tg iter : Expr} {ifs : List Expr} {scope : Scope} {own : List (Str × Nat)} {pos : Pos} {wi : TI} {g : TG} {tt : TT} {te : TE}
    (hs : X.stack = X.env :: X.outer) (hf : X.env.frame = some X.env.locals) (tk : L2N.Takes X (fun cls d _ H => E cls d H))
    (hc : X.calm = true) (hN : X.N.Nodup) (hi : PI X tg iter wi) (ok : BlkOk X.N X.env.scope scope own)
    (hg : ∀ (s : Shared) (H : Hp) (C : Addr) (cl : List (Str × Addr)) (fp : List Addr), PG (X.blk s H scope (compEnvC scope cl C X.env) fp) tg g) (ht : ∀ (s : Shared) (H : Hp) (C : Addr) (cl : List (Str × Addr)) (fp : List Addr), PTs (X.blk s H scope (compEnvC scope cl C X.env) fp) ifs tt)
    (he : ∀ (s : Shared) (H : Hp) (C : Addr) (cl : List (Str × Addr)) (fp : List Addr) (xe : Value → Shared → Prop), (∀ σ, PassesAt (L2N.CX X.prog X.w) ((X.blk s H scope (compEnvC scope cl C X.env) fp).wish xe) σ E) → PE ((X.blk s H scope (compEnvC scope cl C X.env) fp).wish xe) elt te)
    (hsi : ∀ x, foldedSetIterable iter X.env x = pure x) (I : Inv X pins σ H s) (h : tLc wi g tt te (own.map (·.2)) σ H Q)
    (hRR : ∀ D C s' m H', Inv X pins σ H' s' → Q (.ref D) H' → s'.heap.Ns C m → FpOk X pins H' C → ∀ ce : Env, ce.locals = C → compEnds (model X.prog X.w) X.A X.xe use Qf (.ref D) ce (.ok .next) s') :
    wpAny (model X.prog X.w) X.A (comprehension (.ListComp elt [⟨tg, iter, ifs, 0⟩] scope pos) scope X.env pos' (newList []) false (eval iter X.env) use) Qf X.xe s := by
  have hfree : ∀ y ∈ scope.names, y.2 = .free → ∃ c, X.env.cells.lookup y.1 = some c := fun y hy e => by
    rcases ok.free y hy e with k | k
    · exact I.ok.has _ (.inl k)
    · exact I.ok.has _ (.inr k)
  refine comprehension_at (use := use) rfl hsi (closure_ok hfree) ok.kind (fun y hy e => by rw [ok.uniq y hy, e])
    (thn (hi.run pins s σ H _ I h) fun xv s1 hx => thn hx fun itv s2 h2 => ?_)
  obtain ⟨it, fp, tn, J, H2, e, I2, T, st2, f2, q⟩ := h2
  subst e
  refine wpAny_newObj_type (newEnv_comp ?_) (by show 0 ≤ sizeLine; decide)
  generalize hD : s2.heap.objs.size = D
  have hDn : H2 D = none := I2.hok.fresh (Nat.le_of_eq hD)
  obtain ⟨W, ⟨m0, w0⟩, turn⟩ := q D hDn
  generalize hs3 : ({ s2 with heap := s2.heap.push { cls := .type "list", data := .seq ([] : List Value).toArray } } : Shared) = s3
  have I3 : Inv X pins σ (upd H2 D (.lst [])) s3 := by
    rw [← hs3]
    refine I2.laid (t' := s2.toks) (fun b o e => Heap.get?_push_of_some _ e) (Nat.le_of_eq hD) ⟨Nat.zero_le _, [], 0, .nil, ?_⟩
    rw [← hD]
    exact Heap.get?_push_size _ rfl
  have h3 : s3.heap = s2.heap.push { cls := .type "list", data := .seq ([] : List Value).toArray } := by rw [← hs3]
  have sz : ∀ b ∈ fp, b < s2.heap.objs.size := fun b hb => by
    obtain ⟨o, e, _⟩ := T.obj _ _ st2 b hb
    exact Heap.lt_size e
  have f3 : ∀ b ∈ fp, FpOk X pins (upd H2 D (.lst [])) b ∧ b < s3.heap.objs.size := fun b hb => by
    have hlt := sz b hb
    refine ⟨⟨?_, (f2 b hb).2⟩, by rw [h3, Heap.size_push]; exact Nat.lt_succ_of_lt hlt⟩
    rw [upd_ne (by rw [← hD]; exact Nat.ne_of_lt hlt)]
    exact (f2 b hb).1
  have st3 : tn 0 s3.heap := T.keep _ _ _ st2 fun b _ o e => by rw [h3]; exact Heap.get?_push_of_some _ e
  have I4 := block_start I3 ok hN f3
  have pg := hg s3 (upd H2 D (.lst [])) s3.heap.objs.size (cellsFrom (s3.heap.objs.size + 1) scope.names (cloFrom X.env.cells scope.names [])) fp
  have pt := ht s3 (upd H2 D (.lst [])) s3.heap.objs.size (cellsFrom (s3.heap.objs.size + 1) scope.names (cloFrom X.env.cells scope.names [])) fp
  have pe := he s3 (upd H2 D (.lst [])) s3.heap.objs.size (cellsFrom (s3.heap.objs.size + 1) scope.names (cloFrom X.env.cells scope.names [])) fp
  show codeAny _ _ (.compStart (.ListComp elt [⟨tg, iter, ifs, 0⟩] scope pos) 0 (.ref it) (.ref D) (compEnvC scope (cellsFrom (s3.heap.objs.size + 1) scope.names (cloFrom X.env.cells scope.names [])) s3.heap.objs.size X.env)) (compEnds (model X.prog X.w) X.A X.xe use Qf (.ref D) (compEnvC scope (cellsFrom (s3.heap.objs.size + 1) scope.names (cloFrom X.env.cells scope.names [])) s3.heap.objs.size X.env)) { s3 with heap := pushCells (s3.heap.push { cls := .type "dict", data := .dict #[] }) scope.names }
  have nfp : ∀ b ∈ fp, (upd H2 D (.lst [])) b = none := fun b hb => (f3 b hb).1.1
  generalize hce : compEnvC scope (cellsFrom (s3.heap.objs.size + 1) scope.names (cloFrom X.env.cells scope.names [])) s3.heap.objs.size X.env = ce at I4 pg pt pe ⊢
  have cL : ce.locals = s3.heap.objs.size := by subst hce; rfl
  have cF : ce.frame = X.env.frame := by subst hce; rfl
  generalize hH3 : upd H2 D (.lst []) = H3 at I3 I4 pg pt pe w0 nfp f3
  have pe := pe (notedBy (model X.prog X.w) X.A ce (CompFails (model X.prog X.w) X.A X.xe ce)) (fun σ' pins' H1 s1 u s' I1 c => blk_pass hs hf tk I3 (fun b hb => (f3 b hb).1) cF cL I1 c)
  generalize hs4 : ({ s3 with heap := pushCells (s3.heap.push { cls := .type "dict", data := .dict #[] }) scope.names } : Shared) = s4 at I4 ⊢
  have st4 : tn 0 s4.heap := T.keep _ _ _ st3 fun b _ o e => by rw [← hs4]; exact pushCells_keeps _ _ _ _ (Heap.get?_push_of_some _ e)
  have stat : ∀ {σ' : L2.St} {H' : Hp} {s' : Shared}, Inv (X.blk s3 H3 scope ce fp) [] σ' H' s' → (∀ b ∈ fp, H' b = none) → ∀ b ∈ fp, FpOk (X.blk s3 H3 scope ce fp) [] H' b := fun {σ' H' s'} I' hn b hb =>
    ⟨hn b hb, (I'.ok.exf b hb).1, I'.ok.exfs b hb, .inl hb, fun x c e => (I'.ok.exf b hb).2 x c e, fun p hp => absurd (show p ∈ ([] : List (Addr × Obj)) ++ [] from hp) (by simp)⟩
  have loop : codeAny (model X.prog X.w) X.A (.compLoop (.ListComp elt [⟨tg, iter, ifs, 0⟩] scope pos) 0 (.ref it) (.ref D) ce) (compEnds (model X.prog X.w) X.A X.xe use Qf (.ref D) ce) s4 := by
    refine compLoop_any (fun n s' => ∃ i H', Inv (X.blk s3 H3 scope ce fp) [] (wipe σ (own.map (·.2))) H' s' ∧ tn i s'.heap ∧ (∀ b ∈ fp, H' b = none) ∧ W i n H') ?_ m0 ⟨0, H3, I4, st4, nfp, w0⟩
    rintro n s5 ⟨i, H5, I5, st5, n5, w5⟩
    rcases turn i n H5 w5 with ⟨stop, qq⟩ | ⟨go, Nx, hNx, step⟩
    · have td := T.done (X.blk s3 H3 scope ce fp) rfl rfl rfl hc i [] s5 _ H5 (fun _ _ => False) I5 (stat I5 n5) st5 stop
      refine thnF td fun r s6 ⟨hr, I6⟩ => ?_
      subst hr
      have I7 : Inv X pins σ H5 s6 := I3.call' (ch := fp) I6.os I6.base I6.hok I6.bare fun b hb => ⟨(f3 b hb).1.2.2.2.1, (f3 b hb).1.2.1, (f3 b hb).1.2.2.2.2.1, (f3 b hb).1.2.2.2.2.2⟩
      have nC : H5 s3.heap.objs.size = none := by
        have z : H5 ce.locals = none := I6.free
        rw [cL] at z
        exact z
      obtain ⟨m, hn, _⟩ := I6.loc
      have hn : s6.heap.Ns ce.locals m := hn
      rw [cL] at hn
      exact hRR D s3.heap.objs.size s6 m H5 I7 qq hn (I3.fpOk (Nat.le_refl _) nC) ce cL
    · have ti := T.item (X.blk s3 H3 scope ce fp) rfl rfl rfl hc i [] s5 _ H5 (fun _ _ => False) I5 (stat I5 n5) st5 go
      refine thnF ti fun r s6 ⟨u, hr, h6⟩ => ?_
      subst hr
      refine thnF h6 fun _ s7 ⟨x, H7, I7, r7, y7, st7, n7⟩ => ?_
      have I7' := I7.pinned (stat I7 n7) (T.obj _ _ st7)
      refine thnF (pg.run _ s7 _ H7 x u _ I7' r7 (step x H7 y7)) fun _ s8 ⟨σ8, H8, I8, hw8, q8⟩ => ?_
      refine thnF (pt.run _ s8 σ8 H8 _ I8 q8) fun b s9 ⟨H9, I9, q9⟩ => ?_
      have fin : ∀ {s' : Shared} {H' : Hp}, Inv (X.blk s3 H3 scope ce fp) ([] ++ pinsAt fp s7.heap) σ8 H' s' → Nx H' → ∃ m, m < n ∧ ∃ i H', Inv (X.blk s3 H3 scope ce fp) [] (wipe σ (own.map (·.2))) H' s' ∧ tn i s'.heap ∧ (∀ b ∈ fp, H' b = none) ∧ W i m H' := fun {s' H'} I' nx => by
        obtain ⟨m', hm, w'⟩ := hNx H' nx
        have pin' : ∀ b ∈ fp, ∀ o, s7.heap.get? b = some o → s'.heap.get? b = some o ∧ H' b = none := fun b hb o e =>
          let z := I'.pin (b, o) (List.mem_append_right _ (List.mem_append_right _ (mem_pinsAt hb e)))
          ⟨z.1, z.2.1⟩
        have hl : (wipe σ (own.map (·.2))).length = σ8.length := by rw [← hw8, wipe_length]
        refine ⟨m', hm, i + 1, H', (I'.unpinned (pins := [])).weak hl (fun j v e => ?_), T.keep _ _ _ st7 fun b hb o e => (pin' b hb o e).1, fun b hb => ?_, w'⟩
        · rw [← hw8] at e
          exact (wipe_some e).1
        · obtain ⟨o, e, _⟩ := T.obj _ _ st7 b hb
          exact (pin' b hb o e).2
      cases b with
      | false =>
        simp only [Bool.false_eq_true, if_false] at q9 ⊢
        exact fin I9 q9
      | true =>
        simp only [if_true] at q9 ⊢
        refine wpAny_mono (pe.run _ s9 σ8 H9 _ (I9.wish _) q9) (fun z s10 ⟨yv, H10, I10, r10, acc, hD10, hz10, nx⟩ => ?_) (fun u s' hx => hx)
        exact app_ok (X := X.blk s3 H3 scope ce fp) I10.unwish hD10 hz10 r10 fun s11 I11 => fin I11 nx
  exact codeAny_compStart_list loop (T.self X.A 0 _ _ _ st4 loop)
theorem pe_lcE {E : XK} {elt tg iter : Expr} {ifs : List Expr} {scope : Scope} {own : List (Str × Nat)} {pos : Pos} {wi : TI} {g : TG} {tt : TT} {te : TE}
    (hs : X.stack = X.env :: X.outer) (hf : X.env.frame = some X.env.locals) (tk : L2N.Takes X (fun cls d _ H => E cls d H))
    (hc : X.calm = true) (hN : X.N.Nodup) (hi : PI X tg iter wi) (ok : BlkOk X.N X.env.scope scope own)
    (hg : ∀ (s : Shared) (H : Hp) (C : Addr) (cl : List (Str × Addr)) (fp : List Addr), PG (X.blk s H scope (compEnvC scope cl C X.env) fp) tg g) (ht : ∀ (s : Shared) (H : Hp) (C : Addr) (cl : List (Str × Addr)) (fp : List Addr), PTs (X.blk s H scope (compEnvC scope cl C X.env) fp) ifs tt)
    (he : ∀ (s : Shared) (H : Hp) (C : Addr) (cl : List (Str × Addr)) (fp : List Addr) (xe : Value → Shared → Prop), (∀ σ, PassesAt (L2N.CX X.prog X.w) ((X.blk s H scope (compEnvC scope cl C X.env) fp).wish xe) σ E) → PE ((X.blk s H scope (compEnvC scope cl C X.env) fp).wish xe) elt te)
    (hsi : ∀ x, foldedSetIterable iter X.env x = pure x := by intro _; rfl) :
    PE X (.ListComp elt [⟨tg, iter, ifs, 0⟩] scope pos) (tLc wi g tt te (own.map (·.2))) := by
  refine ⟨fun pins s σ H Q I h => ?_⟩
  rw [eval_ListComp]
  refine lc_coreE (use := none) hs hf tk hc hN hi ok hg ht he hsi I h fun D C s' m H' I' q hn f ce hce => ?_
  obtain ⟨f0, f1, f2, f3, f4, f5⟩ := f
  refine ⟨m, by rw [hce]; exact hn, fun h'' sb => ⟨.ref D, H', I'.turned (t' := s'.toks) (fun b o hb e => (sb.2 b (by rw [hce]; exact hb)).trans e) f0 f1 f3 f4 f5, rfl, q⟩⟩
/-- name = [..] on one line, the element one that may raise -/
theorem ps_setLcE {E : XK} {i : Nat} {y : Str} {py : Pos} {elt tg iter : Expr} {ifs : List Expr} {scope : Scope} {own : List (Str × Nat)} {pos spos : Pos} {wi : TI} {g : TG} {tt : TT} {te : TE}
    (hs : X.stack = X.env :: X.outer) (hf : X.env.frame = some X.env.locals) (tk : L2N.Takes X (fun cls d _ H => E cls d H))
    (hc : X.calm = true) (hN : X.N.Nodup) (hy : X.N[i]? = some y) (hyl : X.env.scope.names.lookup y = some .local)
    (hsw : swapsWith (.ListComp elt [⟨tg, iter, ifs, 0⟩] scope pos) (some (.Name y py)) spos.line X.env = pure true) (hi : PI X tg iter wi) (ok : BlkOk X.N X.env.scope scope own)
    (hg : ∀ (s : Shared) (H : Hp) (C : Addr) (cl : List (Str × Addr)) (fp : List Addr), PG (X.blk s H scope (compEnvC scope cl C X.env) fp) tg g) (ht : ∀ (s : Shared) (H : Hp) (C : Addr) (cl : List (Str × Addr)) (fp : List Addr), PTs (X.blk s H scope (compEnvC scope cl C X.env) fp) ifs tt)
    (he : ∀ (s : Shared) (H : Hp) (C : Addr) (cl : List (Str × Addr)) (fp : List Addr) (xe : Value → Shared → Prop), (∀ σ, PassesAt (L2N.CX X.prog X.w) ((X.blk s H scope (compEnvC scope cl C X.env) fp).wish xe) σ E) → PE ((X.blk s H scope (compEnvC scope cl C X.env) fp).wish xe) elt te)
    (hsi : ∀ x, foldedSetIterable iter X.env x = pure x := by intro _; rfl) :
    PS X (.Assign [.Name y py] (.ListComp elt [⟨tg, iter, ifs, 0⟩] scope pos) spos) (tAsg (tLc wi g tt te (own.map (·.2))) (gName i)) := by
  refine ⟨fun pins s σ H D I h => ?_⟩
  rw [exec_Assign_Name_used _ _ _ _ hsw]
  refine wpAny_bind (wpAny_standAt (wpAny_bind ?_))
  show wpAny _ X.A (do let _ ← comprehension (.ListComp elt [⟨tg, iter, ifs, 0⟩] scope pos) scope X.env (firstIterPos [⟨tg, iter, ifs, 0⟩] pos) (newList []) false (eval iter X.env) (some (assign (.Name y py) X.env))) _ _ s
  have h : tLc wi g tt te (own.map (·.2)) σ H (fun x H1 => gName i x σ H1 D.nx) := h
  refine wpAny_bind (wpAny_mono (lc_coreE (Qf := fun _ s' => SP X pins D .next s') hs hf tk hc hN hi ok hg ht he hsi I h fun L C s' m H' I' q hn f ce hce => ?_) (fun _ s' hq => wpAny_pure (wpAny_pure hq)) fun _ _ z => z)
  show wpAny _ _ (assign (.Name y py) X.env (.ref L)) _ _ _
  refine wpAny_assign_Name (store_ok2 (v := V.ref L) I' hN hy (.inl hyl) rfl (fun s2 I2 ⟨a, sb, ha⟩ => ?_) (.inr hyl))
  obtain ⟨f0, f1, f2, f3, f4, f5⟩ := f
  have haC : C ≠ a := by
    rcases ha with z | z
    · rw [z]; exact f1
    · exact fun e => f4 y a z e.symm
  refine ⟨m, by rw [hce]; exact hn.sameBut sb haC, fun h3 sb3 => ?_⟩
  exact ⟨_, H', I2.turned (t' := s2.toks) (fun b o hb e => (sb3.2 b (by rw [hce]; exact hb)).trans e) f0 f1 f3 f4 f5, q⟩
/-- f(e, ..) in the element of a comprehension -/
theorem pe_dB {E : XK} {k : Nat} {x : Str} {ps : List Str} {sp : Sp} {p pos : Pos} {e : Expr} {es : List Expr} {t : TA} (hx : ∀ σ, PassesAt (L2N.CX X.prog X.w) X σ E) (D : Dn X.prog X.w X.K X.mg X.base k x ps sp) (hr : Room k X.A) (hg : Gl X x) (ha : PA X (e :: es) t) (hdb : (x == ("__debug__" : Str)) = false := by decide)
    (he : starEach (e :: es) X.env = (false, eval e X.env) :: starEach es X.env := by rfl) (hpl : (backTo pos (starEach es X.env)).any (·.1) = false := by rfl) :
    PE X (.Call (.Name x p) (e :: es) [] pos) (tCallS sp (fun _ => E) t) := by
  obtain ⟨f, fd, m, kp, b, _, G⟩ := D.ex
  exact pe_callS (E := fun _ => E) G hr hg m kp b hx ha hdb he hpl
end
/-! ## its reading: the k-th item raises -/
section
variable {K : PySem.W.Frag} {Γ : Gm} {Ω : Om} {te : TE}
theorem rz_lc {E : XK} {C : Addr} {α : Type} {wi : TI} {xs : List α} {f : α → As} {g : TG} {vs : List Nat} (G' : α → Gm) (res : α → As) {ws : List Nat} (e : Src Γ Ω wi xs f) (hg : ∀ x, Gt (wipeG Γ vs) (f x) g (G' x) ws) (hw : ∀ i ∈ ws, i ∈ vs)
    {n : Nat} {z : α} (hn : xs[n]? = some z) (he : ∀ x ∈ xs.take n, Ev (G' x) Ω te (res x)) (hr : Rz (fun _ => E) C (G' z) Ω te) (hlen : xs.length ≤ 100000) : Rz (fun _ => E) C Γ Ω (tLc wi g tYes te vs) := fun Z F H σ c kE Q =>
  e Z F H σ c _ fun J F1 H1 c1 s1 src => by
    intro D hD
    have hnl := (List.getElem?_eq_some_iff.mp hn).1
    have cw : Ctx Z F1 H1 (L2.wipe σ vs) (wipeG Γ vs) Ω := c1.slots (c1.sat.wipe vs)
    let Pv : Nat → Hp → Prop := (fun k H' => ∃ F' acc, H' D = some (.lst acc) ∧ acc.length ≤ k ∧ F' D = none ∧ ∃ G, Ctx Z F' G (L2.wipe σ vs) (wipeG Γ vs) Ω ∧ Ext [] F1 H1 F' G ∧ G D = none ∧ H' = upd G D (.lst acc))
    refine ⟨fun i m H => m = n - i ∧ i ≤ n ∧ Pv i H, ⟨_, rfl, Nat.zero_le _, F1, [], upd_same, Nat.zero_le _, c1.sub.free hD, H1, cw, Ext.refl _ _ _, hD, rfl⟩, ?_⟩
    rintro k m Hc ⟨rfl, hkn, pk⟩
    obtain ⟨F', acc, hA, hlA, hFD, G, cG, eG, hGD, rfl⟩ := pk
    have hk : k < xs.length := by omega
    have hx : xs[k]? = some xs[k] := List.getElem?_eq_getElem hk
    have cA0 : Ctx Z F' (upd G D (.lst acc)) (L2.wipe σ vs) (wipeG Γ vs) Ω := (cG.grow (A := ⟨fun _ _ => True, fun _ h => h⟩) (p := D) (o := .lst acc) hGD trivial).tail
    obtain ⟨go, yl⟩ := (src Z F' _ _ _ _ cA0 eG.fe).2 k xs[k] hx
    rcases Nat.lt_or_eq_of_le hkn with hkn | hkn
    · have hmem : xs[k] ∈ xs.take n := List.mem_take_iff_getElem.mpr ⟨k, by omega, rfl⟩
      refine .inr ⟨go, Pv (k + 1), fun H' p' => ⟨n - (k + 1), by omega, rfl, hkn, p'⟩, fun y H' hy => ?_⟩
      obtain ⟨F0, e0, s0, ry⟩ := yl y H' hy
      have cA : Ctx Z F0 H' (L2.wipe σ vs) (wipeG Γ vs) Ω := cA0.step e0 s0
      have pres : ∀ {F2 H2 : Hp}, Ext [] F' (upd G D (.lst acc)) F2 H2 → H2 D = some (.lst acc) := fun e2 => e2.fr D _ upd_same List.not_mem_nil
      have back : ∀ {F2 H2 : Hp} {σ2 : L2.St} {Γ2 : Gm}, Ctx Z F2 H2 σ2 Γ2 Ω → Ext [] F' (upd G D (.lst acc)) F2 H2 → F2 D = none ∧ ∃ G2, Ctx Z F2 G2 (L2.wipe σ vs) (wipeG Γ vs) Ω ∧ Ext [] F1 H1 F2 G2 ∧ G2 D = none ∧ ∀ o, upd H2 D o = upd G2 D o := fun {F2 H2 σ2 Γ2} c2 e2 => by
        have f2 : F2 D = none := e2.nw D (by rw [upd_same]; exact fun z => by cases z) hFD
        let G2 : Hp := fun b => if b = D then none else H2 b
        have g2 : ∀ b, b ≠ D → G2 b = H2 b := fun b hb => if_neg hb
        have gD : G2 D = none := if_pos rfl
        have hext : Ext [] F' G F2 G2 := by
          refine ⟨e2.fe, fun b o h hn => ?_, fun b h => ?_, fun b h1 h2 => ?_⟩
          · have hb : b ≠ D := ne_of_none h hGD
            rw [g2 b hb]
            exact e2.fr b o (by rw [upd_ne hb]; exact h) hn
          · by_cases hb : b = D
            · rw [hb]; exact hGD
            · rw [g2 b hb] at h
              have := e2.dm b h
              rw [upd_ne hb] at this
              exact this
          · have hb : b ≠ D := fun z => h1 (by rw [z]; exact hGD)
            exact e2.nw b (by rw [upd_ne hb]; exact h1) h2
        have hsub : Same F2 G2 := fun b o h => by
          have hb : b ≠ D := ne_of_none h f2
          rw [g2 b hb]
          exact c2.sub b o h
        refine ⟨f2, G2, cG.step hext hsub, eG.trans hext, gD, fun o => ?_⟩
        funext b
        unfold upd
        by_cases hb : b = D
        · rw [if_pos hb, if_pos hb]
        · rw [if_neg hb, if_neg hb, g2 b hb]
      refine hg xs[k] Z F0 _ (L2.wipe σ vs) y Ω cA ry _ fun σ2 c2 hσ => ⟨(hσ vs hw).trans (wipe_wipe σ vs), ?_⟩
      refine et_yes Z F0 _ σ2 c2 _ fun F3 H3 c3 e3' => ?_
      have e3 := e0.trans e3'
      refine iteT ?_
      refine he xs[k] hmem Z F3 H3 σ2 c3 _ fun w F4 H4 c4 e4 rw' => ?_
      have e34 := e3.trans e4
      obtain ⟨f4, G4, cG4, eG4, gD4, up4⟩ := back c4 e34
      exact ⟨acc, pres e34, Nat.lt_of_le_of_lt (Nat.le_trans hlA (Nat.le_of_lt (Nat.lt_of_lt_of_le hk hlen))) (by decide), F4, acc ++ [w], upd_same, by rw [List.length_append]; exact Nat.succ_le_succ hlA, f4, G4, cG4, eG4, gD4, up4 _⟩
    · subst hkn
      have ez : xs[k] = z := by rw [hx] at hn; exact Option.some.inj hn
      refine .inr ⟨go, fun _ => False, fun H' p' => p'.elim, fun y H' hy => ?_⟩
      obtain ⟨F0, e0, s0, ry⟩ := yl y H' hy
      have cA : Ctx Z F0 H' (L2.wipe σ vs) (wipeG Γ vs) Ω := cA0.step e0 s0
      refine hg xs[k] Z F0 _ (L2.wipe σ vs) y Ω cA ry _ fun σ2 c2 hσ => ⟨(hσ vs hw).trans (wipe_wipe σ vs), ?_⟩
      rw [ez] at c2
      refine et_yes Z F0 _ σ2 c2 _ fun F3 H3 c3 e3' => ?_
      have e3 := e0.trans e3'
      refine iteT ?_
      refine hr Z F3 H3 σ2 c3 (fun F2 H2 c4 e2 => ?_) _
      obtain ⟨en, sn⟩ := Ext.new (o := .lst acc) cG.sub hGD
      have eAll : Ext [] F1 H1 F2 H2 := eG.trans ((Ext.newH (o := .lst acc) (F := F') hGD).trans (e3.trans e2))
      exact kE F2 H2 (c1.step eAll c4.sub) (s1.trans eAll)
end
end Y

local macro_rules | `(tactic| walk_at "y") => `(tactic| first | assumption | trivial | decide +kernel | (exact ⟨by decide +kernel, by decide +kernel⟩) | omega | (dsimp only; omega) | (dsimp only; decide +kernel))
local macro_rules | `(tactic| walk_at "ty") => `(tactic| first | exact Y.ty_int | exact Y.ty_fq | exact Y.ty_fr | exact Y.ty_tup | exact Y.ty_lst | exact Y.ty_bool)
local macro_rules | `(tactic| walk_at "kd") => `(tactic| first | exact Y.kd_fq | exact Y.kd_list Y.kd_fq | exact Y.kd_int | exact Y.kd_list Y.kd_int | exact Y.kd_pair | exact Y.kd_list Y.kd_pair)
local macro_rules | `(tactic| walk_at "ls") => `(tactic| first | exact Y.cutA_to | exact Y.cutA_from | exact Y.cutA_rest | exact Y.cutA_most | exact List.map_reverse.symm | exact (List.map_nil).symm | rfl)
local macro_rules | `(tactic| walk_at "nev") => `(tactic| (intro x; first | exact Y.nev_tp | exact Y.nev_ls | exact Y.nev_c (fun z => nomatch z)))
local macro_rules | `(tactic| walk_at "sub") => `(tactic| first | exact List.Sublist.refl _ | exact List.Sublist.cons _ (List.Sublist.refl _) | exact List.Sublist.cons₂ _ (List.nil_sublist _) | exact List.nil_sublist _)

namespace Y
open PySem L2 PySem.Spec
open PyProof.Rows (envOfC)
open C8 (tCut pss_cut)
def top (i : Nat) : Stmt := PySem.Challenge.pw_sharewheel_k82_rows_written.main.body.getD i (.Pass ⟨0, 0, 0, 0⟩)
abbrev s_is_good : Stmt := top 9
theorem sc_is_good : FnScope ["piece", "earliest", "at", "who", "length", "share"] ["piece", "earliest"] (defScope s_is_good) := ⟨rfl, rfl, rfl, by decide +kernel, rfl, by decide +kernel, by decide +kernel⟩
abbrev s_checked : Stmt := top 10
theorem sc_checked : FnScope ["row", "earliest", "place", "piece"] ["row"] (defScope s_checked) := ⟨rfl, rfl, rfl, by decide +kernel, rfl, by decide +kernel, by decide +kernel⟩
abbrev s_is_number : Stmt := top 13
theorem sc_is_number : FnScope ["word", "most", "sign"] ["word", "most"] (defScope s_is_number) := ⟨rfl, rfl, rfl, by decide +kernel, rfl, by decide +kernel, by decide +kernel⟩
abbrev s_number_of : Stmt := top 14
theorem sc_number_of : FnScope ["word"] ["word"] (defScope s_number_of) := ⟨rfl, rfl, rfl, by decide +kernel, rfl, by decide +kernel, by decide +kernel⟩
abbrev s_show_row : Stmt := top 15
theorem sc_show_row : FnScope ["row", "piece", "number"] ["row"] (defScope s_show_row) := ⟨rfl, rfl, rfl, by decide +kernel, rfl, by decide +kernel, by decide +kernel⟩
abbrev s_read_piece : Stmt := top 16
theorem sc_read_piece : FnScope ["line", "words", "numbers", "word"] ["line"] (defScope s_read_piece) := ⟨rfl, rfl, rfl, by decide +kernel, rfl, by decide +kernel, by decide +kernel⟩
abbrev s_read_row : Stmt := top 17
theorem sc_read_row : FnScope ["text", "line"] ["text"] (defScope s_read_row) := ⟨rfl, rfl, rfl, by decide +kernel, rfl, by decide +kernel, by decide +kernel⟩
abbrev s__law_cell_at : Stmt := top 19
theorem sc__law_cell_at : FnScope ["_law_script", "_law_k"] ["_law_script", "_law_k"] (defScope s__law_cell_at) := ⟨rfl, rfl, rfl, by decide +kernel, rfl, by decide +kernel, by decide +kernel⟩
abbrev s__law_stream : Stmt := top 20
theorem sc__law_stream : FnScope ["_law_cell", "_law_many", "_law_found", "_law_number_here", "_law_k"] ["_law_cell", "_law_many"] (defScope s__law_stream) := ⟨rfl, rfl, rfl, by decide +kernel, rfl, by decide +kernel, by decide +kernel⟩
abbrev s__law_row : Stmt := top 21
theorem sc__law_row : FnScope ["_law_script", "_law_row_here", "_law_at", "_law_cell", "_law_xs", "_law_gap", "_law_length"] ["_law_script"] (defScope s__law_row) := ⟨rfl, rfl, rfl, by decide +kernel, rfl, by decide +kernel, by decide +kernel⟩
abbrev s__law_spoilt : Stmt := top 22
theorem sc__law_spoilt : FnScope ["_law_row_here", "_law_cell", "_law_some", "_law_at", "_law_piece", "_law_which"] ["_law_row_here", "_law_cell"] (defScope s__law_spoilt) := ⟨rfl, rfl, rfl, by decide +kernel, rfl, by decide +kernel, by decide +kernel⟩
abbrev s__law_text : Stmt := top 23
theorem sc__law_text : FnScope ["_law_row_here", "_law_lines", "_law_piece", "_law_number_here"] ["_law_row_here"] (defScope s__law_text) := ⟨rfl, rfl, rfl, by decide +kernel, rfl, by decide +kernel, by decide +kernel⟩
abbrev s__law_number : Stmt := top 24
theorem sc__law_number : FnScope ["_law_word", "_law_sign"] ["_law_word"] (defScope s__law_number) := ⟨rfl, rfl, rfl, by decide +kernel, rfl, by decide +kernel, by decide +kernel⟩
abbrev s__law_due : Stmt := top 25
theorem sc__law_due : FnScope ["_law_text_here", "_law_row_here", "_law_line_of", "_law_numbers", "_law_word"] ["_law_text_here"] (defScope s__law_due) := ⟨rfl, rfl, rfl, by decide +kernel, rfl, by decide +kernel, by decide +kernel⟩
abbrev s__law_bad : Stmt := top 26
theorem sc__law_bad : FnScope ["_law_row_here", "_law_last", "_law_place", "_law_piece", "_law_at", "_law_who", "_law_length", "_law_share"] ["_law_row_here"] (defScope s__law_bad) := ⟨rfl, rfl, rfl, by decide +kernel, rfl, by decide +kernel, by decide +kernel⟩
abbrev s__law_read : Stmt := top 27
theorem sc__law_read : FnScope ["_law_text_here", "e", "_law_found"] ["_law_text_here"] (defScope s__law_read) := ⟨rfl, rfl, rfl, by decide +kernel, rfl, by decide +kernel, by decide +kernel⟩
abbrev s__law_kinds : Stmt := top 28
theorem sc__law_kinds : FnScope ["_law_found", "_law_piece", "_law_one"] ["_law_found"] (defScope s__law_kinds) := ⟨rfl, rfl, rfl, by decide +kernel, rfl, by decide +kernel, by decide +kernel⟩
abbrev s__law_right : Stmt := top 29
theorem sc__law_right : FnScope ["_law_text_here", "_law_row_here", "_law_found", "_law_bad_here"] ["_law_text_here"] (defScope s__law_right) := ⟨rfl, rfl, rfl, by decide +kernel, rfl, by decide +kernel, by decide +kernel⟩
abbrev s__law_changed : Stmt := top 30
theorem sc__law_changed : FnScope ["_law_text_here", "_law_cell", "_law_at", "_law_sign"] ["_law_text_here", "_law_cell"] (defScope s__law_changed) := ⟨rfl, rfl, rfl, by decide +kernel, rfl, by decide +kernel, by decide +kernel⟩
abbrev s_law : Stmt := top 31
theorem sc_law : FnScope ["_law_script", "_law_row_here", "_law_handed", "_law_text_here", "_law_cell", "_law_odd"] ["_law_script"] (defScope s_law) := ⟨rfl, rfl, rfl, by decide +kernel, rfl, by decide +kernel, by decide +kernel⟩
abbrev s_BadRow___init__ : Stmt := inClass (top 3) 0
theorem sc_BadRow___init__ : FnScope ["self", "place"] ["self", "place"] (defScope s_BadRow___init__) := ⟨rfl, rfl, rfl, by decide +kernel, rfl, by decide +kernel, by decide +kernel⟩
/-- what the text's top leaves -/
structure G (K : PySem.W.Frag) (mg : Str → Option Value) (C : Str → Addr) : Prop where
  b_all : mg "all" = none
  b_enumerate : mg "enumerate" = none
  b_int : mg "int" = none
  b_isinstance : mg "isinstance" = none
  b_len : mg "len" = none
  b_list : mg "list" = none
  b_max : mg "max" = none
  b_range : mg "range" = none
  b_str : mg "str" = none
  b_tuple : mg "tuple" = none
  x_NoText : Xc K mg (C "NoText") "NoText"
  u_FIGURES : ∃ t, mg "FIGURES" = some (.str "0123456789" t)
  g_GREATEST : ∃ t, mg "GREATEST" = some (.int 1000000 t)
  g_LATEST : ∃ t, mg "LATEST" = some (.int 1000000000000 t)
  g_MANY : ∃ t, mg "MANY" = some (.int 60 t)
  g_SENDERS : ∃ t, mg "SENDERS" = some (.int 12 t)
  h_BadRow : mg "BadRow" = some (.ref (C "BadRow"))
  h_NoText : mg "NoText" = some (.ref (C "NoText"))
  d_BadRow___init__ : Te K mg (C "BadRow") "BadRow" "BadRow.__init__" s_BadRow___init__ ["self", "place"]
  m_BadRow_place : PySem.W.findIn K (.ref (C "BadRow")) "place" = some none
  f_BadRow : XfC K (C "BadRow")
  i_NoText : ExcC K (C "NoText")
  k_NoText_BadRow : PySem.W.kitOne K (.ref (C "NoText")) (.ref (C "BadRow")) = some false
  p_BadRow_BadRow : PySem.W.exmOne K (.ref (C "BadRow")) (.ref (C "BadRow")) = some true
  p_NoText_NoText : PySem.W.exmOne K (.ref (C "NoText")) (.ref (C "NoText")) = some true
  np_BadRow_NoText : PySem.W.exmOne K (.ref (C "BadRow")) (.ref (C "NoText")) = some false
  d_is_good : Tx K mg "is_good" s_is_good ["piece", "earliest"]
  d_checked : Tx K mg "checked" s_checked ["row"]
  d_is_number : Tx K mg "is_number" s_is_number ["word", "most"]
  d_number_of : Tx K mg "number_of" s_number_of ["word"]
  d_show_row : Tx K mg "show_row" s_show_row ["row"]
  d_read_piece : Tx K mg "read_piece" s_read_piece ["line"]
  d_read_row : Tx K mg "read_row" s_read_row ["text"]
  d__law_cell_at : Tx K mg "_law_cell_at" s__law_cell_at ["_law_script", "_law_k"]
  d__law_stream : Tx K mg "_law_stream" s__law_stream ["_law_cell", "_law_many"]
  d__law_row : Tx K mg "_law_row" s__law_row ["_law_script"]
  d__law_spoilt : Tx K mg "_law_spoilt" s__law_spoilt ["_law_row_here", "_law_cell"]
  d__law_text : Tx K mg "_law_text" s__law_text ["_law_row_here"]
  d__law_number : Tx K mg "_law_number" s__law_number ["_law_word"]
  d__law_due : Tx K mg "_law_due" s__law_due ["_law_text_here"]
  d__law_bad : Tx K mg "_law_bad" s__law_bad ["_law_row_here"]
  d__law_read : Tx K mg "_law_read" s__law_read ["_law_text_here"]
  d__law_kinds : Tx K mg "_law_kinds" s__law_kinds ["_law_found"]
  d__law_right : Tx K mg "_law_right" s__law_right ["_law_text_here"]
  d__law_changed : Tx K mg "_law_changed" s__law_changed ["_law_text_here", "_law_cell"]
  d_law : Tx K mg "law" s_law ["_law_script"]
def strI (n : Int) : Str := Str.ofString (toString n)
def Wn (n : Int) : Prop := n.natAbs < 10 ^ 220
theorem Wn.log {n : Int} (h : Wn n) : n.natAbs.log2 < 1920 := by
  unfold Wn at h
  by_cases z : n.natAbs = 0
  · rw [z]; decide
  · exact (Nat.log2_lt z).mpr (Nat.lt_trans h (by decide +kernel))
theorem Wn.len {n : Int} (h : Wn n) : (strI n).length ≤ 221 := by
  have e := PySem.int_text_length_le10 (k := 220) (by decide) h
  have e2 : (strI n).length = (toString n).length := PySem.ofString_length _
  omega
theorem wn_of {n : Int} (h : Bt 720 n) : Wn n := Nat.lt_trans h (by decide +kernel)
def showF (q : Rat) : Str := if (q.den : Int) = 1 then strI q.num else (strI q.num ++ Str.ofString "/") ++ strI q.den
theorem str_len (a b : Str) : (a ++ b).length = a.length + b.length := by
  show (a.cps ++ b.cps).size = _
  rw [Array.size_append]; rfl
theorem showF_len {q : Rat} (h1 : Wn q.num) (h2 : Wn q.den) : (showF q).length ≤ 500 := by
  have a := h1.len
  have b := h2.len
  unfold showF
  split
  · omega
  · rw [str_len, str_len]
    have : (Str.ofString "/").length = 1 := by decide +kernel
    omega

/-! ## numbers as texts -/
def dgB (k : Nat) : Bool := decide (k ∈ (Str.ofString "0123456789").cps.toList)
theorem dgB_iff {k : Nat} : dgB k = true ↔ 48 ≤ k ∧ k ≤ 57 := by
  have e : (Str.ofString "0123456789").cps.toList = [48, 49, 50, 51, 52, 53, 54, 55, 56, 57] := by decide +kernel
  unfold dgB
  rw [e, decide_eq_true_iff]
  simp only [List.mem_cons, List.not_mem_nil, or_false]
  omega
/-- the text of a whole number as it is written -/
structure Num (w : Str) : Prop where
  dg : PySem.NumText.AllDigits w.cps.toList
  ne : w.cps.toList ≠ []
  ld : w.cps.toList = [48] ∨ w.cps.toList.head? ≠ some 48
def numV (w : Str) : Nat := PySem.NumText.digitsVal w.cps.toList
theorem strI_cps (m : Nat) : (strI (m : Int)).cps.toList = (Nat.toDigits 10 m).map Char.toNat := PySem.W.KIN.signs_num m
theorem strI_neg {m : Nat} (h : 0 < m) : (strI (-(m : Int))).cps.toList = 45 :: (strI (m : Int)).cps.toList := by
  obtain ⟨k, rfl⟩ : ∃ k, m = k + 1 := ⟨m - 1, by omega⟩
  have e : strI (-((k + 1 : Nat) : Int)) = Str.ofString ("-" ++ toString (k + 1)) := rfl
  rw [e, strI_cps, PyProof.Rows.signs_ofString, String.toList_append, List.map_append]
  show [45] ++ (toString (k + 1)).toList.map Char.toNat = _
  rw [show (toString (k + 1)).toList = Nat.toDigits 10 (k + 1) from Nat.toList_repr ..]
  rfl
theorem Num.val {w : Str} (h : Num w) (hl : w.length ≤ 640) : PySem.intText? w = some (numV w : Int) := PySem.intText_digits h.dg h.ne (by omega)
theorem chars_back {cs : List Nat} (h : PySem.NumText.AllDigits cs) : (cs.map Char.ofNat).map Char.toNat = cs := by
  rw [List.map_map]
  refine (List.map_congr_left fun k hk => ?_).trans (List.map_id cs)
  have := h k hk
  have hv : Nat.isValidChar k := .inl (by omega)
  show (Char.ofNat k).toNat = k
  unfold Char.ofNat
  rw [dif_pos hv]
  rfl
theorem Num.txt {w : Str} (h : Num w) : strI (numV w : Int) = w := by
  refine str_inj ?_
  rw [strI_cps]
  unfold numV
  have hl : 0 < w.cps.toList.length := List.length_pos_iff.mpr h.ne
  obtain ⟨n, hn⟩ : ∃ n, w.cps.toList.length = n + 1 := ⟨w.cps.toList.length - 1, by omega⟩
  rw [PySem.NumText.toDigits_digitsVal n _ hn h.dg ?_, chars_back h.dg]
  rcases h.ld with e | e
  · left
    rw [e] at hn
    have : [48].length = n + 1 := hn
    simp at this
    omega
  · right
    match hc : w.cps.toList, h.ne with
    | c :: r, _ =>
      rw [hc] at e
      have := h.dg c (by rw [hc]; exact List.mem_cons_self)
      have e : c ≠ 48 := fun z => e (by rw [z]; rfl)
      exact ⟨c, r, rfl, by omega⟩
theorem strI_val (m : Nat) : numV (strI (m : Int)) = m := by
  unfold numV
  rw [strI_cps, PySem.W.KIN.val_back]
theorem head_digit : ∀ m : Nat, (Nat.toDigits 10 m) = ['0'] ∨ (Nat.toDigits 10 m).head? ≠ some '0' := fun m => by
  induction m using Nat.strongRecOn with
  | _ m ih =>
    by_cases h : m < 10
    · rw [Nat.toDigits_of_lt_base h]
      revert h; revert m
      intro m _ h
      match m, h with
      | 0, _ => exact .inl rfl
      | 1, _ => exact .inr (by decide)
      | 2, _ => exact .inr (by decide)
      | 3, _ => exact .inr (by decide)
      | 4, _ => exact .inr (by decide)
      | 5, _ => exact .inr (by decide)
      | 6, _ => exact .inr (by decide)
      | 7, _ => exact .inr (by decide)
      | 8, _ => exact .inr (by decide)
      | 9, _ => exact .inr (by decide)
      | n + 10, h => omega
    · have hm : m % 10 < 10 := Nat.mod_lt m (by decide)
      have t : Nat.toDigits 10 (m / 10) ++ Nat.toDigits 10 (m % 10) = Nat.toDigits 10 (10 * (m / 10) + m % 10) := Nat.toDigits_append_toDigits (by decide) (by omega) hm
      rw [Nat.div_add_mod] at t
      rw [← t]
      right
      have hne : Nat.toDigits 10 (m / 10) ≠ [] := fun e => by
        have h := PySem.toDigits_len_ge 10 (m / 10)
        rw [e] at h
        exact absurd h (by decide)
      rw [show (Nat.toDigits 10 (m / 10) ++ Nat.toDigits 10 (m % 10)).head? = (Nat.toDigits 10 (m / 10)).head? by cases hz : Nat.toDigits 10 (m / 10) with | nil => exact absurd hz hne | cons a b => rfl]
      rcases ih (m / 10) (by omega) with e | e
      · have v := PySem.W.KIN.val_back (m / 10)
        rw [e] at v
        have v : 0 = m / 10 := v
        omega
      · exact e
theorem strI_num (m : Nat) : Num (strI (m : Int)) := by
  refine ⟨fun k hk => ?_, fun e => ?_, ?_⟩
  · rw [strI_cps] at hk
    obtain ⟨ch, hch, e⟩ := List.mem_map.mp hk
    rw [← e]
    exact PyProof.Rows.digit_range (Nat.isDigit_of_mem_toDigits (by decide) (by decide) hch)
  · rw [strI_cps] at e
    have h := PySem.toDigits_len_ge 10 m
    rw [List.map_eq_nil_iff.mp e] at h
    exact absurd h (by decide)
  · rw [strI_cps]
    rcases head_digit m with e | e
    · left; rw [e]; rfl
    · right
      rw [List.head?_map]
      intro z
      obtain ⟨ch, h1, h2⟩ := Option.map_eq_some_iff.mp z
      refine e ?_
      rw [h1]
      exact congrArg some (Char.toNat_inj.mp (by rw [h2]; rfl))
theorem strI_len {m k : Nat} (h : m < 10 ^ k) (hk : 0 < k) : (strI (m : Int)).length ≤ k := PyProof.Rows.toString_length_le (Int.natCast_nonneg m) hk (by exact_mod_cast h)
theorem numV_lt {w : Str} (h : Num w) {k : Nat} (hl : w.length ≤ k) : numV w < 10 ^ k := by
  have : ∀ (cs : List Nat) (a : Nat), (∀ c ∈ cs, 48 ≤ c ∧ c ≤ 57) → cs.foldl (fun acc c => acc * 10 + (c - 48)) a < (a + 1) * 10 ^ cs.length := fun cs => by
    induction cs with
    | nil => intro a _; simp
    | cons c cs ih =>
      intro a hc
      have h1 := hc c List.mem_cons_self
      have h2 := ih (a * 10 + (c - 48)) fun d hd => hc d (List.mem_cons_of_mem _ hd)
      rw [List.foldl_cons, List.length_cons, Nat.pow_succ]
      refine Nat.lt_of_lt_of_le h2 ?_
      have h3 : a * 10 + (c - 48) + 1 ≤ (a + 1) * 10 := by omega
      have := Nat.mul_le_mul_right (10 ^ cs.length) h3
      calc _ ≤ (a + 1) * 10 * 10 ^ cs.length := this
        _ = _ := by rw [Nat.mul_assoc, Nat.mul_comm 10]
  have h1 := this w.cps.toList 0 h.dg
  unfold numV PySem.NumText.digitsVal
  refine Nat.lt_of_lt_of_le h1 ?_
  rw [Nat.zero_add, Nat.one_mul, len_cps]
  exact Nat.pow_le_pow_right (by decide) hl
def zeroT : Str := Str.ofString "0"
theorem zeroT_cps : zeroT.cps.toList = [48] := by decide +kernel
def isNum (w : Str) (m : Int) : Bool := (!(decide ((w.length : Int) < 1) || decide (m < (w.length : Int)))) && (w.cps.toList.all dgB && (decide (w = zeroT) || !decide (w.cps.toList.head? = some 48)))
theorem isNum_iff {w : Str} {m : Int} : isNum w m = true ↔ Num w ∧ (w.length : Int) ≤ m := by
  unfold isNum
  simp only [Bool.and_eq_true, Bool.not_eq_true', Bool.or_eq_false_iff, decide_eq_false_iff_not, List.all_eq_true, Bool.or_eq_true, decide_eq_true_eq]
  have hl : w.cps.toList.length = w.length := len_cps w
  constructor
  · rintro ⟨⟨h1, h2⟩, h3, h4⟩
    refine ⟨⟨fun k hk => dgB_iff.mp (h3 k hk), fun e => ?_, ?_⟩, by omega⟩
    · rw [e] at hl; simp at hl; omega
    · rcases h4 with e | e
      · left; rw [e, zeroT_cps]
      · exact .inr e
  · rintro ⟨⟨h1, h2, h3⟩, h4⟩
    have h5 := List.length_pos_iff.mpr h2
    refine ⟨⟨by omega, by omega⟩, fun k hk => dgB_iff.mpr (h1 k hk), ?_⟩
    rcases h3 with e | e
    · left; exact str_inj (by rw [e, zeroT_cps])
    · exact .inr e
theorem num_zero {w : Str} (h : Num w) : numV w = 0 ↔ w = zeroT := by
  constructor
  · intro e
    have := h.txt
    rw [e] at this
    rw [← this]; rfl
  · intro e
    unfold numV
    rw [e, zeroT_cps]; rfl
theorem Num.noS {w : Str} (h : Num w) {k : Nat} (hk : k < 48 ∨ 57 < k) : k ∉ w.cps.toList := fun hm => by
  have := h.dg k hm
  omega

def gP (p : Pie) (e : Int) : Prop := e ≤ p.1 ∧ p.1 ≤ 1000000000000 ∧ 0 ≤ p.2.1 ∧ p.2.1 < 12 ∧ 1 ≤ p.2.2.1 ∧ p.2.2.1 ≤ 1000000 ∧ 1 ≤ p.2.2.2 ∧ p.2.2.2 ≤ 1000000
instance (p : Pie) (e : Int) : Decidable (gP p e) := inferInstanceAs (Decidable (_ ∧ _))
/-- the first bad place -/
def fbad : Nat → Int → List Pie → Option Nat
  | _, _, [] => none
  | k, e, p :: r => if k < 60 ∧ gP p e then fbad (k + 1) p.1 r else some k
theorem fbad_step {k : Nat} {e : Int} {row : List Pie} {p : Pie} (h : row[k]? = some p) : fbad k e (row.drop k) = if k < 60 ∧ gP p e then fbad (k + 1) p.1 (row.drop (k + 1)) else some k := by
  obtain ⟨hk, ek⟩ := List.getElem?_eq_some_iff.mp h
  rw [List.drop_eq_getElem_cons hk, ek]; rfl
theorem fbad_le : ∀ (r : List Pie) (k : Nat) (e : Int) (d : Nat), fbad k e r = some d → k ≤ d ∧ d < k + r.length
  | [], k, e, d, h => by cases h
  | p :: r, k, e, d, h => by
    have h : (if k < 60 ∧ gP p e then fbad (k + 1) p.1 r else some k) = some d := h
    rw [List.length_cons]
    split at h
    · have := fbad_le r (k + 1) p.1 d h
      omega
    · cases h; omega
theorem fbad_take : ∀ (r : List Pie) (k : Nat) (e : Int) (d : Nat), fbad k e r = some d → fbad k e (r.take (d - k)) = none
  | [], k, e, d, h => by cases h
  | p :: r, k, e, d, h => by
    have h : (if k < 60 ∧ gP p e then fbad (k + 1) p.1 r else some k) = some d := h
    split at h
    · rename_i hc
      have hl := fbad_le r (k + 1) p.1 d h
      have ih := fbad_take r (k + 1) p.1 d h
      rw [show d - k = (d - (k + 1)) + 1 by omega, List.take_succ_cons]
      show (if k < 60 ∧ gP p e then fbad (k + 1) p.1 _ else some k) = none
      rw [if_pos hc]; exact ih
    · cases h
      rw [Nat.sub_self]; rfl
/-- hands out something new, or raises C with fields -/
def CtOX {α β : Type} (args : α → List As) (pre good : α → Prop) (post : α → β → Prop) (A : β → OA) (C : Addr) (xf : α → List (Str × As)) : Sp := fun vs H Q E =>
  ∃ a F, Same F H ∧ All F (args a) vs ∧ pre a ∧ (good a → ∀ b p F' H', post a b → Ext [] F H F' H' → Same F' H' → Own F' H' [(p, A b)] → H p = none → Q (.ref p) H') ∧
    (¬ good a → ∀ d F' H', Ext [] F H F' H' → Same F' H' → Own F' H' [(d, oXd (xf a))] → H d = none → E (.ref C) (some d) H')
theorem CtOX.len {α β : Type} {args : α → List As} {pre good : α → Prop} {post : α → β → Prop} {A : β → OA} {C : Addr} {xf : α → List (Str × As)} {n : Nat} (h : ∀ a, (args a).length = n) : ∀ vs H Q E, CtOX args pre good post A C xf vs H Q E → vs.length = n := by
  rintro vs H Q E ⟨a, F, _, ha, _⟩
  rw [ha.length, h]
section
variable {Z : Bs} {F H : Hp} {σ : L2.St} {Γ : Gm} {Ω : Om} {K : PySem.W.Frag} {C : Addr}
theorem cl_OX {α β : Type} {args : α → List As} {pre good : α → Prop} {post : α → β → Prop} {A : β → OA} {xf : α → List (Str × As)} {W : L2.St → XK} {ta : TA} {Q : VK} (a : α) (c : Ctx Z F H σ Γ Ω) (h : EvA Γ Ω ta (args a)) (hp : pre a)
    (k1 : good a → ∀ b p F' H', post a b → Ctx Z F' H' σ Γ ((p, A b) :: Ω) → Same F F' → Q (.ref p) H') (k2 : ¬ good a → ∀ d F' H', Ctx Z F' H' σ Γ ((d, oXd (xf a)) :: Ω) → Same F F' → W σ (.ref C) (some d) H') : tCallS (CtOX args pre good post A C xf) W ta σ H Q :=
  h Z F H σ c _ fun vs F1 H1 c1 s1 rs => ⟨a, F1, c1.sub, rs, hp, fun g b p F2 H2 hb e2 s2 o hn => k1 g b p F2 H2 hb (c1.add e2 s2 o hn) (s1.fe.trans e2.fe), fun g d F2 H2 e2 s2 o hd => k2 g d F2 H2 (c1.add e2 s2 o hd) (s1.fe.trans e2.fe)⟩
theorem nw_callX {α β : Type} {args : α → List As} {pre good : α → Prop} {post : α → β → Prop} {A : β → OA} {xf : α → List (Str × As)} {E : XK} {ta : TA} {B0 : OA} (a : α) (h : EvA Γ Ω ta (args a)) (hp : pre a) (hg : good a) (hb : ∀ b, post a b → A b = B0) : EvNw Γ Ω (tCall (CtOX args pre good post A C xf) [] E ta) B0 := fun Z F H σ c Q q =>
  h Z F H σ c _ fun vs F1 H1 c1 s1 rs => ⟨a, F1, c1.sub, by rw [List.append_nil]; exact rs, hp, fun _ b p F2 H2 hpb e2 s2 o hn => by
    have o' : Own F2 H2 [(p, B0)] := by rw [← hb b hpb]; exact o
    exact q p F2 H2 (c1.add e2 s2 o' hn) (s1.trans e2) (s1.dm _ hn), fun n => absurd hg n⟩
theorem ev_lsth {ta : TA} {Rs : List As} (h : EvA Γ Ω ta Rs) (hl : Rs.length ≤ 1000 := by decide) : Ev Γ Ω (tLst ta) (Lh Rs) := fun Z F H σ c Q q =>
  h Z F H σ c _ fun vs F1 H1 c1 s1 rs => ⟨by rw [rs.length]; exact Nat.le_of_lt (small1000 hl), fun p hp => by
    obtain ⟨e, s⟩ := Ext.new (o := .lst vs) c1.sub hp
    exact q (.ref p) _ _ (c1.step e s) (s1.trans e) ⟨p, vs, rfl, upd_same, rs.mono e.fe⟩⟩
theorem all_rep {F : Hp} {R : As} {v : V} (h : R.p F v) : ∀ n : Nat, All F (List.replicate n R) (List.replicate n [v]).flatten
  | 0 => trivial
  | n + 1 => ⟨h, all_rep h n⟩
theorem ev_rep1 {ta tb : TE} {R : As} {k : Int} (ha : Ev Γ Ω ta (Lh [R])) (hb : Ev Γ Ω tb (I k)) (h0 : 0 ≤ k) (h1 : k ≤ 1000) : Ev Γ Ω (tOp rRep ta tb) (Lh (List.replicate k.toNat R)) := ev_op ha hb fun F H x y s rx e Q q => by
  cases e
  obtain ⟨a, xs, ex, h2, h3⟩ := rx
  subst ex
  obtain ⟨v, ev, rv⟩ := h3.one
  subst ev
  refine ⟨a, k, [v], rfl, rfl, s a _ h2, by omega, by omega, ?_, fun p hp => ?_⟩
  · have : (([v] : List V).length * k.toNat) ≤ 1000 := by rw [List.length_singleton]; omega
    exact Nat.le_trans this (by decide)
  · obtain ⟨e, s2⟩ := Ext.new (o := .lst (List.replicate k.toNat [v]).flatten) s hp
    exact q (.ref p) _ _ e s2 ⟨p, _, rfl, upd_same, (all_rep rv _).mono e.fe⟩
theorem ints_any {F F2 : Hp} : ∀ {ns : List Int} {ys : List V}, All F (ns.map fun n => I n) ys → All F2 (ns.map fun n => I n) ys
  | [], [], _ => trivial
  | [], _ :: _, h => h.elim
  | _ :: _, [], h => h.elim
  | _ :: _, _ :: _, h => ⟨h.1, ints_any h.2⟩
/-- an owned list of pieces, told as it stands to a def that hands out a new one -/
theorem nw_peekX {p : Addr} {i j : Nat} {row : List Pie} {pre good : List Pie → Prop} {xf : List Pie → List (Str × As)} {E : XK} (hm : Ω[j]? = some (p, oL (row.map (Pc K)))) (hi : Γ[i]? = some (some (Rf p))) (hp : pre row) (hg : good row) : EvNw Γ Ω (tCall (CtOX (fun a : List Pie => [Ls K (a.map (Pc K))]) pre good (fun a b => b = a) (fun b : List Pie => oL (b.map (Pc K))) C xf) [] E (tCons (tVar i) tNil)) (oL (row.map (Pc K))) := fun Z F H σ c Q q => by
  obtain ⟨h1, o, h2, xs, eo, hx⟩ := c.own _ (List.mem_of_getElem? hm)
  subst eo
  dsimp only at h1 h2
  obtain ⟨v, e1, e2⟩ := c.sat.get hi
  have e2 : v = .ref p := e2
  subst e2
  have s : Same F (upd F p (.lst xs)) := fun a u z => by rw [upd_ne (ne_of_none z h1)]; exact z
  have hsub : Same (upd F p (.lst xs)) H := fun a u z => by
    by_cases e : a = p
    · rw [e] at z ⊢; rw [upd_same] at z; rw [← z]; exact h2
    · rw [upd_ne e] at z; exact c.sub a u z
  refine ⟨.ref p, e1, row, upd F p (.lst xs), hsub, ⟨⟨p, xs, rfl, SqL.of upd_same, hx.mono s⟩, trivial⟩, hp, fun _ b t F' H' hb ex s' o hn => ?_, fun n => absurd hg n⟩
  subst hb
  have hFp : F' p = some (.lst xs) := ex.fe p _ upd_same
  have drop : ∀ {a : Addr} {u : HO}, F' a = some u → a ≠ p → (fun x => if x = p then none else F' x) a = some u := fun z n => by
    show (if _ = p then none else F' _) = _
    rw [if_neg n]; exact z
  have ex2 : Ext [] F H (fun x => if x = p then none else F' x) H' := by
    refine ⟨fun a u z => drop (ex.fe a u (s a u z)) (ne_of_none z h1), ex.fr, ex.dm, fun a hne hF => ?_⟩
    show (if a = p then none else F' a) = none
    by_cases w : a = p
    · rw [if_pos w]
    · rw [if_neg w]
      exact ex.nw a hne (by rw [upd_ne w]; exact hF)
  have ss : Same (fun x => if x = p then none else F' x) H' := fun a u z => by
    have z : (if a = p then none else F' a) = some u := z
    by_cases w : a = p
    · rw [if_pos w] at z; cases z
    · rw [if_neg w] at z; exact s' a u z
  have pcs : ∀ {r : Pie} {v : V}, (Pc K r).p F' v → (Pc K r).p (fun x => if x = p then none else F' x) v := fun {r v} hr => by
    obtain ⟨a, ys, ea, hs, hl⟩ := hr
    refine ⟨a, ys, ea, ?_, ?_⟩
    · rcases hs with z | z
      · refine .inl ?_
        have hne : a ≠ p := fun w => by
          rw [w] at z
          rcases z with z | ⟨_, z⟩ <;> (rw [hFp] at z; cases z)
        rcases z with z | ⟨ob, z⟩
        · exact .inl (drop z hne)
        · exact .inr ⟨ob, drop z hne⟩
      · exact .inr z
    · exact ints_any (ns := [r.1, r.2.1, r.2.2.1, r.2.2.2]) hl
  have alls : ∀ {l : List Pie} {ys : List V}, All F' (l.map (Pc K)) ys → All (fun x => if x = p then none else F' x) (l.map (Pc K)) ys := fun {l} => by
    induction l with
    | nil => intro ys h; cases ys with
      | nil => trivial
      | cons y ys => exact h.elim
    | cons r l ih => intro ys h; cases ys with
      | nil => exact h.elim
      | cons y ys => exact ⟨pcs h.1, ih h.2⟩
  have o2 : Own (fun x => if x = p then none else F' x) H' [(t, oL (b.map (Pc K)))] := fun x hx => by
    rw [List.mem_singleton.mp hx]
    obtain ⟨w1, ob, w2, ys, w3, w4⟩ := o _ List.mem_cons_self
    refine ⟨?_, ob, w2, ys, w3, alls w4⟩
    show (if t = p then none else F' t) = none
    split
    · rfl
    · exact w1
  exact q t _ H' (c.add ex2 ss o2 hn) ex2 hn
theorem cutN {α : Type} {t : TS} {D : Ends} (_c : Ctx Z F H σ Γ Ω) (Gf : α → Gm) (Of : α → Om) (P : α → Prop) (hb : (∀ o F H σ, P o → Ctx Z F H σ (Gf o) (Of o) → D.nx σ H) → t D σ H) (rest : ∀ o F H σ, P o → Ctx Z F H σ (Gf o) (Of o) → D.nx σ H) : t D σ H := hb rest
def dO : Option Int → PyData
  | none => .none
  | some n => .int n
theorem kdO {K : PySem.W.Frag} : Kd K (Op fun n : Int => I n) dO 0 := ⟨fun o => by cases o with
    | none => exact isd_non
    | some n => exact isd_int, fun o => by cases o with
    | none => exact ⟨rfl, Nat.le_refl _⟩
    | some n => exact gd_int, fun x y => by cases x <;> cases y <;> simp [dO, PyData.eqv]⟩
theorem atI_last {α : Type} {f : α → As} {l : List α} {x : α} : atI ((l ++ [x]).map f) (-1) = some (f x) := by
  have e : ixN (l.length + 1) (-1) = some l.length := by unfold ixN; rw [if_neg (by decide), if_pos (by omega)]; congr 1; omega
  unfold atI
  rw [List.length_map, List.length_append, List.length_singleton, e, List.map_append]
  show (l.map f ++ [f x])[l.length]? = _
  rw [List.getElem?_append_right (by rw [List.length_map]; exact Nat.le_refl _), List.length_map, Nat.sub_self]; rfl
theorem atI_4i (a b c d k : Int) (h0 : 0 ≤ k) (h1 : k < 4) : atI [I a, I b, I c, I d] k = some (I (if k = 0 then a else if k = 1 then b else if k = 2 then c else d)) := by
  have := atI_four a b c d k
  rwa [Int.emod_eq_of_lt h0 h1] at this
theorem atI_3i (a b c k : Int) (h0 : 0 ≤ k) (h1 : k < 3) : atI [I a, I b, I c] k = some (I (if k = 0 then a else if k = 1 then b else c)) := by
  have := atI_three a b c k
  rwa [Int.emod_eq_of_lt h0 h1] at this
theorem ev_notNN {ta : TE} (ha : Ev Γ Ω ta Nn) : Ev Γ Ω (tOp (fun x y H Q => y = .non ∧ Q (.bl (!decide (x = .non))) H) ta (tC .non)) (B false) := ev_notNO (α := Unit) (R := fun _ => B true) (o := none) (fun _ => nev_c (fun z => nomatch z)) ha
theorem nev_I (n : Int) : Nev (I n) := nev_c (fun z => nomatch z)
end
abbrev bdO (row : List Pie) : Option Int := (fbad 0 0 row).map fun k => (k : Int)

/-! ## what a text of a row is -/
section
variable {zz82 : Nat}
open TL
def numO (w : Str) : Option Int := if isNum w 15 = true then some (numV w : Int) else none
theorem num_test {w : Str} (hb : (decide (w = Str.empty) || (decide (15 < (w.length : Int)) || (decide (w.cps.toList.head? = some 48) && decide (1 < (w.length : Int))))) = true) : numO w = none := by
  unfold numO
  refine if_neg fun z => ?_
  obtain ⟨N, l⟩ := isNum_iff.mp z
  rw [Bool.or_eq_true, Bool.or_eq_true, Bool.and_eq_true, decide_eq_true_iff, decide_eq_true_iff, decide_eq_true_iff, decide_eq_true_iff] at hb
  rcases hb with h | h | ⟨h1, h2⟩
  · exact N.ne (by rw [h]; rfl)
  · omega
  · rcases N.ld with e | e
    · rw [← len_cps, e] at h2
      exact absurd h2 (by decide)
    · exact e h1
theorem num_test2 {w : Str} (hb : (decide (w = Str.empty) || (decide (15 < (w.length : Int)) || (decide (w.cps.toList.head? = some 48) && decide (1 < (w.length : Int))))) = false) (hd : w.cps.toList.all dgB = true) : numO w = some (numV w : Int) ∧ Num w ∧ w.length ≤ 15 := by
  rw [Bool.or_eq_false_iff, Bool.or_eq_false_iff, Bool.and_eq_false_iff, decide_eq_false_iff_not, decide_eq_false_iff_not, decide_eq_false_iff_not, decide_eq_false_iff_not] at hb
  obtain ⟨h1, h2, h3⟩ := hb
  have hl := len_cps w
  have hne : w.cps.toList ≠ [] := fun e => h1 (str_inj (by rw [e]; rfl))
  have hp := List.length_pos_iff.mpr hne
  have N : Num w := by
    refine ⟨fun k hk => dgB_iff.mp (List.all_eq_true.mp hd k hk), hne, ?_⟩
    rcases h3 with e | e
    · exact .inr e
    · have hl1 : w.cps.toList.length = 1 := by omega
      match hc : w.cps.toList, hl1 with
      | [a], _ =>
        by_cases ha : a = 48
        · left; rw [ha]
        · right; intro z; exact ha (Option.some.inj z)
  have l : w.length ≤ 15 := by omega
  refine ⟨?_, N, l⟩
  unfold numO
  exact if_pos (isNum_iff.mpr ⟨N, by omega⟩)
theorem okS_iff {x : Str} : PyData.strOk x = true ↔ ∀ c ∈ x.cps.toList, c < 0x110000 := by
  unfold PyData.strOk
  rw [Array.all_eq_true_iff_forall_mem]
  exact ⟨fun h c hc => of_decide_eq_true (h c (Array.mem_toList_iff.mp hc)), fun h c hc => decide_eq_true (h c (Array.mem_toList_iff.mpr hc))⟩
theorem okS_cat {x y : Str} (hx : PyData.strOk x = true) (hy : PyData.strOk y = true) : PyData.strOk (x ++ y) = true := okS_iff.mpr fun c hc => by
  rw [cps_app] at hc
  rcases List.mem_append.mp hc with z | z
  · exact okS_iff.mp hx c z
  · exact okS_iff.mp hy c z
theorem okS_cut {x : Str} {lo hi : Option Int} (hx : PyData.strOk x = true) : PyData.strOk (cutS x lo hi) = true := okS_iff.mpr fun c hc => by
  unfold cutS at hc
  rw [List.toList_toArray] at hc
  exact okS_iff.mp hx c (List.mem_of_mem_drop (List.mem_of_mem_take hc))
theorem lenS_cut {x : Str} {lo hi : Option Int} : (cutS x lo hi).length ≤ x.length := by
  unfold cutS
  show (List.toArray _).size ≤ x.cps.size
  rw [List.size_toArray, List.length_take, List.length_drop, Array.length_toList]
  omega
def blT : Str := Str.ofString " "
def lfT : Str := Str.ofString "\n"
theorem bl_tl : tl blT = [32] := by decide +kernel
theorem lf_tl : tl lfT = [10] := by decide +kernel
theorem bl_k : blT.cps.all (· < 256) = true := by decide +kernel
theorem lf_k : lfT.cps.all (· < 256) = true := by decide +kernel

def pie4 : List (Option Int) → Option Pie
  | [some a, some b, some c, some d] => some (a, b, c, d)
  | _ => none
def pieO (x : Str) : Option Pie := pie4 ((Txt.split x blT).map numO)
def allO : List (Option Pie) → Option (List Pie)
  | [] => some []
  | none :: _ => none
  | some p :: r => (allO r).map (p :: ·)
def rowO (x : Str) : Option (List Pie) := if x = Str.empty then some [] else allO ((Txt.split x lfT).map pieO)
theorem first_no {α : Type} : ∀ l : List (Option α), (∃ vs : List α, l = vs.map some) ∨ ∃ n, l[n]? = some none ∧ ∀ o ∈ l.take n, ∃ v, o = some v
  | [] => .inl ⟨[], rfl⟩
  | none :: l => .inr ⟨0, rfl, fun o h => absurd h List.not_mem_nil⟩
  | some a :: l => by
    rcases first_no l with ⟨vs, e⟩ | ⟨n, e, h⟩
    · exact .inl ⟨a :: vs, by rw [e]; rfl⟩
    · refine .inr ⟨n + 1, e, fun o ho => ?_⟩
      rcases List.mem_cons.mp ho with z | z
      · exact ⟨a, z⟩
      · exact h o z
theorem allO_some : ∀ vs : List Pie, allO (vs.map some) = some vs
  | [] => rfl
  | v :: vs => by
    show (allO (vs.map some)).map (v :: ·) = _
    rw [allO_some vs]; rfl
theorem allO_none : ∀ {l : List (Option Pie)} {n : Nat}, l[n]? = some none → allO l = none
  | none :: l, _, _ => rfl
  | some a :: l, 0, h => by cases h
  | some a :: l, n + 1, h => by
    show (allO l).map (a :: ·) = none
    rw [allO_none (n := n) h]; rfl
theorem spl_sz {s : Nat} : ∀ (l acc : List Nat), (∀ p ∈ spl [s] 0 acc l, p.length ≤ acc.length + l.length ∧ ∀ c ∈ p, c ∈ acc ∨ c ∈ l) ∧ (spl [s] 0 acc l).length ≤ l.length + 1
  | [], acc => by
    rw [spl_nil]
    refine ⟨fun p hp => ?_, Nat.le_refl _⟩
    rw [List.mem_singleton.mp hp]
    exact ⟨Nat.le_refl _, fun c hc => .inl hc⟩
  | c :: r, acc => by
    by_cases h : pre [s] (c :: r) = true
    · rw [spl_hit h]
      obtain ⟨i1, i2⟩ := spl_sz (s := s) r []
      refine ⟨fun p hp => ?_, by rw [List.length_cons, List.length_cons]; exact Nat.succ_le_succ i2⟩
      rcases List.mem_cons.mp hp with z | z
      · rw [z]
        exact ⟨by rw [List.length_cons]; omega, fun c hc => .inl hc⟩
      · obtain ⟨k1, k2⟩ := i1 p z
        refine ⟨by rw [List.length_nil] at k1; rw [List.length_cons]; omega, fun c hc => ?_⟩
        rcases k2 c hc with y | y
        · exact absurd y List.not_mem_nil
        · exact .inr (List.mem_cons_of_mem _ y)
    · have h : pre [s] (c :: r) = false := by simpa using h
      rw [spl_miss h]
      obtain ⟨i1, i2⟩ := spl_sz (s := s) r (acc ++ [c])
      refine ⟨fun p hp => ?_, by rw [List.length_cons]; omega⟩
      obtain ⟨k1, k2⟩ := i1 p hp
      refine ⟨by rw [List.length_append, List.length_singleton] at k1; rw [List.length_cons]; omega, fun d hd => ?_⟩
      rcases k2 d hd with y | y
      · rcases List.mem_append.mp y with y | y
        · exact .inl y
        · rw [List.mem_singleton.mp y]; exact .inr List.mem_cons_self
      · exact .inr (List.mem_cons_of_mem _ y)
theorem split_sz {x y : Str} {s : Nat} (hy : tl y = [s]) (hk : y.cps.all (· < 256) = true) : (∀ z ∈ Txt.split x y, z.length ≤ x.length ∧ (PyData.strOk x = true → PyData.strOk z = true)) ∧ (Txt.split x y).length ≤ x.length + 1 := by
  have e := split_spl x y (by rw [hy]; simp) (kind_ok hk)
  rw [hy] at e
  obtain ⟨i1, i2⟩ := spl_sz (s := s) (tl x) []
  rw [← e] at i1 i2
  have hx : (tl x).length = x.length := len_cps x
  refine ⟨fun z hz => ?_, by rw [List.length_map] at i2; omega⟩
  obtain ⟨k1, k2⟩ := i1 (tl z) (List.mem_map.mpr ⟨z, hz, rfl⟩)
  have hzl : (tl z).length = z.length := len_cps z
  refine ⟨by rw [List.length_nil] at k1; omega, fun ok => okS_iff.mpr fun c hc => ?_⟩
  rcases k2 c hc with w | w
  · exact absurd w List.not_mem_nil
  · exact okS_iff.mp ok c w
theorem bl_sz (x : Str) : (∀ z ∈ Txt.split x blT, z.length ≤ x.length ∧ (PyData.strOk x = true → PyData.strOk z = true)) ∧ (Txt.split x blT).length ≤ x.length + 1 := split_sz (x := x) bl_tl bl_k
theorem lf_sz (x : Str) : (∀ z ∈ Txt.split x lfT, z.length ≤ x.length ∧ (PyData.strOk x = true → PyData.strOk z = true)) ∧ (Txt.split x lfT).length ≤ x.length + 1 := split_sz (x := x) lf_tl lf_k
end

theorem blkOk_nf {N : List Str} {sc scope : Scope} {own : List (Str × Nat)} (h : blkC N ⟨.function, [], false, false, []⟩ scope own = true) (hf : (scope.names.all fun y => !(y.2 == NameKind.free)) = true) : BlkOk N sc scope own := by
  have b := blkOk_by h
  refine ⟨b.kind, b.uniq, b.ix, fun y hy e => ?_, b.own⟩
  have := List.all_eq_true.mp hf y hy
  rw [e] at this
  exact absurd this (by decide)
theorem pi_listK {X : Cx} {K : PySem.W.Frag} {tg e : Expr} {te : TE} (hK : X.K = K) (h : PE X e te) : PI X tg e (iList K te) := by
  subst hK
  exact pi_list h
theorem pi_tupK {X : Cx} {K : PySem.W.Frag} {tg e : Expr} {te : TE} (hK : X.K = K) (h : PE X e te) : PI X tg e (iTup K te) := by
  subst hK
  exact pi_tup h
section
variable {zz83 : Nat}
open TL
theorem joinL_len (S : List Nat) : ∀ ps : List (List Nat), (joinL S ps).length ≤ (ps.map List.length).sum + ps.length * S.length
  | [] => Nat.zero_le _
  | [p] => by simp [joinL]
  | p :: q :: r => by
    have ih := joinL_len S (q :: r)
    show (p ++ (S ++ joinL S (q :: r))).length ≤ _
    rw [List.length_append, List.length_append, List.map_cons, List.sum_cons, List.length_cons, Nat.succ_mul]
    omega
theorem join_lenW {y : Str} {ws : List Str} {n : Nat} (h : ∀ w ∈ ws, w.length ≤ n) : (Txt.join y ws).length ≤ ws.length * (n + y.length) := by
  have h1 := joinL_len (tl y) (ws.map tl)
  have e : (Txt.join y ws).length = (joinL (tl y) (ws.map tl)).length := by
    rw [← tl_join, ← join_eq]
    exact (len_cps _).symm
  have h2 : ∀ l : List Str, (∀ w ∈ l, w.length ≤ n) → ((l.map tl).map List.length).sum ≤ l.length * n := fun l => by
    induction l with
    | nil => intro _; exact Nat.zero_le _
    | cons a l ih =>
      intro hl
      have := ih fun w hw => hl w (List.mem_cons_of_mem _ hw)
      have h3 := hl a List.mem_cons_self
      have h4 : (tl a).length = a.length := len_cps a
      rw [List.map_cons, List.map_cons, List.sum_cons, List.length_cons, Nat.succ_mul, h4]
      omega
  have h3 := h2 ws h
  have h4 : (tl y).length = y.length := len_cps y
  rw [e, Nat.mul_add]
  rw [List.length_map, h4] at h1
  omega
def lineW (xs : List Int) : Str := Txt.join blT (xs.map strI)
def textW (xss : List (List Int)) : Str := Txt.join lfT (xss.map lineW)
def pieL (p : Pie) : List Int := [p.1, p.2.1, p.2.2.1, p.2.2.2]
theorem strI_free {n : Int} (h : 0 ≤ n) {k : Nat} (hk : k < 48 ∨ 57 < k) : k ∉ tl (strI n) := by
  obtain ⟨m, rfl⟩ : ∃ m : Nat, n = (m : Int) := ⟨n.toNat, by omega⟩
  exact (strI_num m).noS hk
theorem line_split {xs : List Int} (h : ∀ x ∈ xs, 0 ≤ x) (hne : xs ≠ []) : Txt.split (lineW xs) blT = xs.map strI :=
  split_join bl_tl bl_k (by simpa using hne) fun p hp => by
    obtain ⟨x, hx, e⟩ := List.mem_map.mp hp
    rw [← e]
    exact strI_free (h x hx) (.inl (by decide))
theorem joinL_mem {S : List Nat} {c : Nat} : ∀ {ps : List (List Nat)}, c ∈ joinL S ps → c ∈ S ∨ ∃ p ∈ ps, c ∈ p
  | [], h => absurd h List.not_mem_nil
  | [p], h => .inr ⟨p, List.mem_cons_self, h⟩
  | p :: q :: r, h => by
    have h : c ∈ p ++ (S ++ joinL S (q :: r)) := h
    rcases List.mem_append.mp h with z | z
    · exact .inr ⟨p, List.mem_cons_self, z⟩
    · rcases List.mem_append.mp z with z | z
      · exact .inl z
      · rcases joinL_mem z with y | ⟨u, hu, y⟩
        · exact .inl y
        · exact .inr ⟨u, List.mem_cons_of_mem _ hu, y⟩
theorem join_free {y : Str} {ws : List Str} {c : Nat} (h1 : c ∉ tl y) (h2 : ∀ w ∈ ws, c ∉ tl w) : c ∉ tl (Txt.join y ws) := fun h => by
  rw [join_eq, tl_join] at h
  rcases joinL_mem h with z | ⟨p, hp, z⟩
  · exact h1 z
  · obtain ⟨w, hw, e⟩ := List.mem_map.mp hp
    rw [← e] at z
    exact h2 w hw z
theorem text_split {xss : List (List Int)} (h : ∀ xs ∈ xss, ∀ x ∈ xs, 0 ≤ x) (hne : xss ≠ []) : Txt.split (textW xss) lfT = xss.map lineW :=
  split_join lf_tl lf_k (by simpa using hne) fun p hp => by
    obtain ⟨xs, hx, e⟩ := List.mem_map.mp hp
    rw [← e]
    refine join_free (by rw [bl_tl]; decide) fun w hw => ?_
    obtain ⟨x, hx2, e2⟩ := List.mem_map.mp hw
    rw [← e2]
    exact strI_free (h xs hx x hx2) (.inl (by decide))
theorem strI_len15 {n : Int} (h : 0 ≤ n) (h1 : n ≤ 2000000000000) : (strI n).length ≤ 15 := by
  obtain ⟨m, rfl⟩ : ∃ m : Nat, n = (m : Int) := ⟨n.toNat, by omega⟩
  exact strI_len (k := 15) (by omega) (by decide)
theorem strI_pos {n : Int} (h : 0 ≤ n) : 1 ≤ (strI n).length := by
  obtain ⟨m, rfl⟩ : ∃ m : Nat, n = (m : Int) := ⟨n.toNat, by omega⟩
  have h1 := (strI_num m).ne
  have h2 := len_cps (strI (m : Int))
  have := List.length_pos_iff.mpr h1
  omega
theorem line_len {xs : List Int} (h : ∀ x ∈ xs, 0 ≤ x ∧ x ≤ 2000000000000) : (lineW xs).length ≤ xs.length * 16 := by
  have := join_lenW (y := blT) (ws := xs.map strI) (n := 15) fun w hw => by
    obtain ⟨x, hx, e⟩ := List.mem_map.mp hw
    rw [← e]; exact strI_len15 (h x hx).1 (h x hx).2
  rw [List.length_map] at this
  exact this
theorem text_ne {xss : List (List Int)} (h : ∀ xs ∈ xss, xs ≠ [] ∧ ∀ x ∈ xs, 0 ≤ x) (hne : xss ≠ []) : textW xss ≠ Str.empty := fun e => by
  have h1 := text_split (fun xs hx => (h xs hx).2) hne
  rw [e] at h1
  have h2 : Txt.split Str.empty lfT = [Str.empty] := by decide +kernel
  rw [h2] at h1
  match xss, hne with
  | xs :: r, _ =>
    rw [List.map_cons, List.cons.injEq] at h1
    obtain ⟨k1, k2⟩ := h xs List.mem_cons_self
    have h3 := line_split k2 k1
    rw [← h1.1] at h3
    have h4 : Txt.split Str.empty blT = [Str.empty] := by decide +kernel
    rw [h4] at h3
    match xs, k1 with
    | x :: r2, _ =>
      rw [List.map_cons, List.cons.injEq] at h3
      have := strI_pos (k2 x List.mem_cons_self)
      rw [← h3.1] at this
      exact absurd this (by decide)

def GoodI (p : Pie) : Prop := ∀ x ∈ pieL p, 0 ≤ x ∧ x ≤ 2000000000000
theorem join_okc {y : Str} {ws : List Str} (h1 : PyData.strOk y = true) (h2 : ∀ w ∈ ws, PyData.strOk w = true) : PyData.strOk (Txt.join y ws) = true := okS_iff.mpr fun c hc => by
  have hc : c ∈ tl (Txt.join y ws) := hc
  rw [join_eq, tl_join] at hc
  rcases joinL_mem hc with z | ⟨p, hp, z⟩
  · exact okS_iff.mp h1 c z
  · obtain ⟨w, hw, e⟩ := List.mem_map.mp hp
    rw [← e] at z
    exact okS_iff.mp (h2 w hw) c z
theorem strI_ok {n : Int} (h : 0 ≤ n) : PyData.strOk (strI n) = true := by
  obtain ⟨m, rfl⟩ : ∃ m : Nat, n = (m : Int) := ⟨n.toNat, by omega⟩
  refine okS_iff.mpr fun c hc => ?_
  have := (strI_num m).dg c hc
  omega
theorem text_ok {row : List Pie} (h : ∀ p ∈ row, GoodI p) : PyData.strOk (textW (row.map pieL)) = true := by
  refine join_okc (by decide +kernel) fun w hw => ?_
  obtain ⟨xs, hxs, e⟩ := List.mem_map.mp hw
  obtain ⟨p, hp, e2⟩ := List.mem_map.mp hxs
  rw [← e, ← e2]
  refine join_okc (by decide +kernel) fun u hu => ?_
  obtain ⟨n, hn, e3⟩ := List.mem_map.mp hu
  rw [← e3]
  exact strI_ok (h p hp n hn).1
theorem line_l {p : Pie} (h : GoodI p) : (lineW (pieL p)).length ≤ 64 := line_len (xs := pieL p) h
theorem hd_noneZ {F0 H0 F H : Hp} {σ : L2.St} {Γ : Gm} {Ω : Om} {G : Hp} {d : Addr} {A : OA} (c : Ctx ⟨F0, H0, [], G, []⟩ F H σ Γ ((d, A) :: Ω)) : H0 d = none := by
  rcases c.loc _ List.mem_cons_self with l | l | l
  · exact absurd l List.not_mem_nil
  · exact l
  · exact absurd l List.not_mem_nil
theorem text_l {row : List Pie} (h : ∀ p ∈ row, GoodI p) : (textW (row.map pieL)).length ≤ row.length * 65 := by
  have h1 := join_lenW (y := lfT) (ws := (row.map pieL).map lineW) (n := 64) fun w hw => by
    obtain ⟨xs, hxs, e⟩ := List.mem_map.mp hw
    obtain ⟨p, hp, e2⟩ := List.mem_map.mp hxs
    rw [← e, ← e2]; exact line_l (h p hp)
  have e1 : lfT.length = 1 := by decide +kernel
  rw [List.length_map, List.length_map, e1] at h1
  exact h1
theorem sum_leN {α : Type} {f : α → Nat} {l : List α} {m : Nat} (h : ∀ x ∈ l, f x ≤ m) : (l.map f).sum ≤ l.length * m := by
  induction l with
  | nil => simp
  | cons x l ih =>
    have h1 := h x List.mem_cons_self
    have h2 := ih fun y hy => h y (List.mem_cons_of_mem _ hy)
    rw [List.map_cons, List.sum_cons, List.length_cons, Nat.succ_mul]
    omega
theorem allO_eq : ∀ {l : List (Option Pie)} {vs : List Pie}, allO l = some vs → l = vs.map some
  | [], vs, h => by cases h; rfl
  | none :: l, vs, h => by cases h
  | some a :: l, vs, h => by
    have h : (allO l).map (a :: ·) = some vs := h
    obtain ⟨w, hw, e⟩ := Option.map_eq_some_iff.mp h
    rw [← e, allO_eq hw]; rfl
theorem line_sums {p : Pie} (h : GoodI p) : (((pieL p).map strI).map fun y : Str => y.length).sum + ((pieL p).map strI).length * (Str.ofString " ").length ≤ 16777216 := by
  have := sum_leN (f := fun y : Str => y.length) (l := (pieL p).map strI) (m := 15) (fun y hy => by
    obtain ⟨n, hn, e⟩ := List.mem_map.mp hy
    rw [← e]; exact strI_len15 (h n hn).1 (h n hn).2)
  have e2 : (Str.ofString " ").length = 1 := by decide +kernel
  have h4 : ((pieL p).map strI).length = 4 := rfl
  rw [h4] at this ⊢
  rw [e2]
  omega
theorem text_sums {row : List Pie} (hl : row.length ≤ 100) (h : ∀ p ∈ row, GoodI p) : (((row.map pieL).map lineW).map fun y : Str => y.length).sum + ((row.map pieL).map lineW).length * (Str.ofString "\n").length ≤ 16777216 := by
  have := sum_leN (f := fun y : Str => y.length) (l := (row.map pieL).map lineW) (m := 64) (fun y hy => by
    obtain ⟨xs, hxs, e⟩ := List.mem_map.mp hy
    obtain ⟨p, hp, e2⟩ := List.mem_map.mp hxs
    rw [← e, ← e2]; exact line_l (h p hp))
  have e2 : (Str.ofString "\n").length = 1 := by decide +kernel
  rw [List.length_map, List.length_map] at this
  rw [List.length_map, List.length_map, e2]
  omega
theorem num_log {n : Int} (h0 : 0 ≤ n) (h1 : n ≤ 2000000000000) : n.natAbs.log2 < 1920 := (wn_of (show Bt 720 n from (show Bt 50 n by unfold Bt; omega).up (by decide))).log
end

theorem okS_one {k : Nat} (h : k < 0x110000) : PyData.strOk (⟨#[k]⟩ : Str) = true := okS_iff.mpr fun c hc => by
  have hc : c ∈ [k] := hc
  rw [List.mem_singleton.mp hc]; exact h
theorem good4 {a b c d : Int} (ha : 0 ≤ a ∧ a ≤ 2000000000000) (hb : 0 ≤ b ∧ b ≤ 2000000000000) (hc : 0 ≤ c ∧ c ≤ 2000000000000) (hd : 0 ≤ d ∧ d ≤ 2000000000000) : GoodI (a, b, c, d) := fun x hx => by
  unfold pieL at hx
  simp only [List.mem_cons, List.not_mem_nil, or_false] at hx
  rcases hx with z | z | z | z <;> subst z <;> assumption
def RG (k : Nat) (t : Int) (row : List Pie) : Prop := row.length = k ∧ (∀ p ∈ row, GoodI p) ∧ 0 ≤ t ∧ t ≤ k * 76923076923
theorem atI_4q (a b c d z : Int) : atI [I a, I b, I c, I d] (z % 4) = some (I (if z % 4 = 0 then a else if z % 4 = 1 then b else if z % 4 = 2 then c else d)) := by
  have h0 := Int.emod_nonneg z (b := 4) (by decide)
  have h1 := Int.emod_lt_of_pos z (b := 4) (by decide)
  obtain ⟨y, hy⟩ : ∃ y, z % 4 = y := ⟨_, rfl⟩
  rw [hy] at h0 h1 ⊢
  obtain rfl | rfl | rfl | rfl : y = 0 ∨ y = 1 ∨ y = 2 ∨ y = 3 := by omega
  all_goals rfl
theorem pie4_no {l : List (Option Int)} (h : l.length ≠ 4 ∨ none ∈ l) : pie4 l = none := by
  match l, h with
  | [], _ => rfl
  | [a], _ => cases a <;> rfl
  | [a, b], _ => cases a <;> cases b <;> rfl
  | [a, b, c], _ => cases a <;> cases b <;> cases c <;> rfl
  | [a, b, c, d], h =>
    rcases h with h | h
    · exact absurd rfl h
    · simp only [List.mem_cons, List.not_mem_nil, or_false] at h
      rcases h with z | z | z | z <;> subst z <;> first | rfl | (cases a <;> rfl) | (cases a <;> cases b <;> rfl) | (cases a <;> cases b <;> cases c <;> rfl)
  | a :: b :: c :: d :: e :: r, _ => simp [pie4]
theorem pie4_yes {l : List (Option Int)} (h1 : l.length = 4) (h2 : none ∉ l) : ∃ a b c d, l = [some a, some b, some c, some d] := by
  match l, h1, h2 with
  | [some a, some b, some c, some d], _, _ => exact ⟨a, b, c, d, rfl⟩
  | [none, b, c, d], _, h => exact absurd List.mem_cons_self h
  | [a, none, c, d], _, h => exact absurd (List.mem_cons_of_mem _ List.mem_cons_self) h
  | [a, b, none, d], _, h => exact absurd (List.mem_cons_of_mem _ (List.mem_cons_of_mem _ List.mem_cons_self)) h
  | [a, b, c, none], _, h => exact absurd (List.mem_cons_of_mem _ (List.mem_cons_of_mem _ (List.mem_cons_of_mem _ List.mem_cons_self))) h

def sg18 : Str := "0123456789 \n-+.a0 "
theorem sg18_ok : sg18.cps.toList.length = 18 ∧ (∀ c ∈ sg18.cps.toList, c < 0x110000) ∧ sg18.length ≤ 100 := by
  refine ⟨by decide +kernel, fun c hc => ?_, by decide +kernel⟩
  have : sg18.cps.toList.all (fun c => decide (c < 0x110000)) = true := by decide +kernel
  exact of_decide_eq_true (List.all_eq_true.mp this c hc)
theorem row_parts {x : Str} {row : List Pie} (hl : x.length ≤ 10000) (h : rowO x = some row) : row.length ≤ 20000 ∧ ∀ p ∈ row, 0 ≤ p.2.1 := by
  unfold rowO at h
  split at h
  · cases h
    exact ⟨Nat.zero_le _, fun p hp => absurd hp List.not_mem_nil⟩
  · have em := allO_eq h
    obtain ⟨_, z2⟩ := lf_sz x
    refine ⟨by have := congrArg List.length em; rw [List.length_map, List.length_map] at this; omega, fun p hp => ?_⟩
    have : some p ∈ (Txt.split x lfT).map pieO := by rw [em]; exact List.mem_map.mpr ⟨p, hp, rfl⟩
    obtain ⟨u, _, e⟩ := List.mem_map.mp this
    unfold pieO at e
    have key : ∀ l : List (Option Int), (∀ o ∈ l, ∀ n, o = some n → 0 ≤ n) → pie4 l = some p → 0 ≤ p.2.1 := fun l hl e => by
      unfold pie4 at e
      split at e
      · cases e
        rename_i a b c d
        exact hl (some b) (by simp) b rfl
      · cases e
    refine key _ (fun o ho n en => ?_) e
    obtain ⟨w, _, ew⟩ := List.mem_map.mp ho
    rw [en] at ew
    unfold numO at ew
    split at ew
    · cases ew; omega
    · cases ew
def noneT : Str := Str.ofString "none"
def badT : Str := Str.ofString "bad"
/-- what the law tells of a text -/
def resA (K : PySem.W.Frag) (x : Str) : As := match rowO x with
  | none => Tp K [S noneT]
  | some row => match bdO row with
    | some d => Tp K [S badT, I d]
    | none => Ls K (row.map (Pc K))
section
variable {Z : Bs} {F H : Hp} {σ : L2.St} {Γ : Gm} {Ω : Om} {K : PySem.W.Frag} {C : Addr} {sp : Sp} {ta : TA} {te : TE}
theorem cl_Xs {α : Type} {args : α → List As} {pre good : α → Prop} {res : α → As} {xf : α → List (Str × As)} {W : L2.St → XK} {Q : VK} (hsub : ∀ vs H Q E, CtX args pre good res C xf vs H Q E → sp vs H Q E) (a : α) (c : Ctx Z F H σ Γ Ω) (h : EvA Γ Ω ta (args a)) (hp : pre a)
    (k1 : good a → ∀ v F' H', Ctx Z F' H' σ Γ Ω → Same F F' → (res a).p F' v → Q v H') (k2 : ¬ good a → ∀ d F' H', Ctx Z F' H' σ Γ ((d, oXd (xf a)) :: Ω) → Same F F' → W σ (.ref C) (some d) H') : tCallS sp W ta σ H Q :=
  h Z F H σ c _ fun vs F1 H1 c1 s1 rs => hsub _ _ _ _ ⟨a, F1, c1.sub, rs, hp, fun g v F2 H2 e2 s2 rv => k1 g v F2 H2 (c1.step e2 s2) (s1.fe.trans e2.fe) rv, fun g d F2 H2 e2 s2 o hd => k2 g d F2 H2 (c1.add e2 s2 o hd) (s1.fe.trans e2.fe)⟩
theorem ev_callXt {α : Type} {P : α → Prop} {Rb : α → As} {args : α → List As} {pre : α → Prop} {res : α → As} {E : XK} {tx : TE} (h : Ev Γ Ω tx (Xs P Rb)) (ha : ∀ a, args a = [Rb a]) (hp : ∀ a, P a → pre a) : Ev Γ Ω (tCall (CtF args pre res) [] E (tCons tx tNil)) (Xs P res) := fun Z F H σ c Q q =>
  h Z F H σ c _ fun v F1 H1 c1 s1 ⟨a, pa, rv⟩ => ⟨a, F1, c1.sub, by rw [ha]; exact ⟨rv, trivial⟩, hp a pa, fun v F2 H2 e2 s2 r => q v F2 H2 (c1.step e2 s2) (s1.trans e2) ⟨a, pa, r⟩⟩
theorem eo_listTp {Rs : List As} (ha : Ev Γ Ω te (Tp K Rs)) : EvNw Γ Ω (tCB (fun xs H Q => ∃ p ys, xs = [.ref p] ∧ (SqL K H p ys ∨ SqT K H p ys) ∧ ∀ l, H l = none → Q (.ref l) (upd H l (.lst ys))) (tCons te tNil)) (oL Rs) := fun Z F H σ c Q q =>
  ha Z F H σ c _ fun a F1 H1 c1 s1 rv => by
    obtain ⟨a, xs, e, hs, hl⟩ := rv
    subst e
    exact ⟨a, xs, rfl, .inr (same_seqT c1.sub hs), fun p hp => q p F1 _ (c1.grow (A := oL Rs) hp ⟨xs, rfl, hl⟩) (s1.trans (Ext.newH hp)) (s1.dm _ hp)⟩
end

theorem all_set {F : Hp} {R : As} {v : V} {Rs : List As} {xs : List V} (h : All F Rs xs) (hv : R.p F v) (k : Nat) : All F (Rs.set k R) (xs.set k v) :=
  All.of_get (by rw [List.length_set, List.length_set]; exact h.length) fun m S z h1 h3 => by
    by_cases hmk : k = m
    · subst hmk
      have l1 := (List.getElem?_eq_some_iff.mp h1).1
      have l2 := (List.getElem?_eq_some_iff.mp h3).1
      rw [List.length_set] at l1 l2
      rw [List.getElem?_set_self l1] at h1
      rw [List.getElem?_set_self l2] at h3
      cases h1; cases h3
      exact hv
    · rw [List.getElem?_set_ne hmk] at h1 h3
      obtain ⟨z', e1, e2⟩ := h.get h1
      rw [e1] at h3
      cases h3
      exact e2
section
variable {Z : Bs} {F H : Hp} {σ : L2.St} {Γ : Gm} {Ω : Om} {K : PySem.W.Frag} {n : L2.St → Hp → Prop} {r : VK} {bk ct : L2.St → Hp → Prop} {p : Addr} {j : Nat} {Rs : List As}
/-- l[i], l[m] = e, f -/
theorem st_swapL {R1 R2 : As} {x1 x2 : Int} {k1 k2 : Nat} {t : TA} {to1 to2 ti1 ti2 : TE} (c : Ctx Z F H σ Γ Ω) (e : EvA Γ Ω t [R1, R2]) (hm : Ω[j]? = some (p, oL Rs)) (h1 : Ev Γ Ω to1 (Rf p)) (i1 : Ev Γ Ω ti1 (I x1)) (n1 : ixN Rs.length x1 = some k1) (h2 : ∀ Ω', Ev Γ Ω' to2 (Rf p)) (i2 : ∀ Ω', Ev Γ Ω' ti2 (I x2)) (n2 : ixN Rs.length x2 = some k2)
    (hw : Wr Z p) (kk : ∀ F' H', Ctx Z F' H' σ Γ (Ω.set j (p, oL ((Rs.set k1 R1).set k2 R2))) → n σ H') : tAsg (tTup t) (gTup K 2 (gCons (gSub to1 ti1 rSetL) (gCons (gSub to2 ti2 rSetL) gNil))) ⟨n, r, bk, ct⟩ σ H :=
  (ev_tup (K := K) e (show 2 ≤ 1000 by decide)) Z F H σ c _ fun v F1 H1 c1 s1 ⟨a, xs, ea, hs, hl⟩ => by
    obtain ⟨v1, v2, ex, r1, r2⟩ := hl.two
    subst ea ex
    refine ⟨a, [v1, v2], rfl, same_seqT c1.sub hs, rfl, v1, [v2], rfl, ?_⟩
    refine h1 Z F1 H1 σ c1 _ fun o F2 H2 c2 s2 ro => i1 Z F2 H2 σ c2 _ fun y F3 H3 c3 s3 ry => ?_
    cases ro
    cases ry
    obtain ⟨_, ob, hh, zs, eo, hx⟩ := c3.own _ (List.mem_of_getElem? hm)
    subst eo
    dsimp only at hh
    refine ⟨p, zs, x1, k1, rfl, rfl, hh, by rw [hx.length]; exact n1, v2, [], rfl, ?_⟩
    have c4 := c3.chg (A' := oL (Rs.set k1 R1)) (o := .lst (zs.set k1 v1)) hm ⟨_, rfl, all_set hx (R1.mono (s2.trans s3).fe r1) k1⟩ hw
    have hj := (List.getElem?_eq_some_iff.mp hm).1
    have hm4 : (Ω.set j (p, oL (Rs.set k1 R1)))[j]? = some (p, oL (Rs.set k1 R1)) := List.getElem?_set_self hj
    refine h2 _ Z F3 _ σ c4 _ fun o F5 H5 c5 s5 ro => i2 _ Z F5 H5 σ c5 _ fun y F6 H6 c6 s6 ry => ?_
    cases ro
    cases ry
    obtain ⟨_, ob, hh2, zs2, eo2, hx2⟩ := c6.own _ (List.mem_of_getElem? hm4)
    subst eo2
    dsimp only at hh2
    refine ⟨p, zs2, x2, k2, rfl, rfl, hh2, by rw [hx2.length, List.length_set]; exact n2, rfl, ?_⟩
    have c7 := c6.chg (A' := oL ((Rs.set k1 R1).set k2 R2)) (o := .lst (zs2.set k2 v2)) hm4 ⟨_, rfl, all_set hx2 (R2.mono (s2.fe.trans (s3.fe.trans (s5.trans s6).fe)) r2) k2⟩ hw
    rw [List.set_set] at c7
    exact kk _ _ c7
end
def Q4 (qs : List Int) : Prop := qs.length = 4 ∧ ∀ z ∈ qs, 0 ≤ z ∧ z ≤ 2000000000000
theorem Q4.set {qs : List Int} (h : Q4 qs) (k : Nat) {v : Int} (h0 : 0 ≤ v) (h1 : v ≤ 2000000000000) : Q4 (qs.set k v) := by
  refine ⟨by rw [List.length_set]; exact h.1, fun z hz => ?_⟩
  rcases List.mem_or_eq_of_mem_set hz with y | y
  · exact h.2 z y
  · rw [y]; exact ⟨h0, h1⟩
def GR (m : Nat) (row : List Pie) : Prop := row.length = m ∧ ∀ p ∈ row, GoodI p
theorem GR.set {m : Nat} {row : List Pie} (h : GR m row) (k : Nat) {q : Pie} (hq : GoodI q) : GR m (row.set k q) := by
  refine ⟨by rw [List.length_set]; exact h.1, fun z hz => ?_⟩
  rcases List.mem_or_eq_of_mem_set hz with y | y
  · exact h.2 z y
  · rw [y]; exact hq
theorem ixN_natZ {n j : Nat} (hj : j < n) : ixN n (j : Int) = some j := by
  unfold ixN
  rw [if_pos (by omega), if_pos (by omega)]
  simp
theorem ixN_last {m : Nat} (h : 0 < m) : ixN m (-1) = some (m - 1) := by
  unfold ixN
  rw [if_neg (by decide), if_pos (by omega)]
  congr 1
  omega
theorem atI_lastZ {α : Type} {xs : List α} {x : α} (h : xs[xs.length - 1]? = some x) (h0 : 0 < xs.length) : atI xs (-1) = some x := by
  unfold atI
  rw [ixN_last h0]
  exact h

theorem text_all {row : List Pie} (hl : row.length ≤ 100) (h : ∀ p ∈ row, GoodI p) : (textW (row.map pieL)).length ≤ 6500 ∧ PyData.strOk (textW (row.map pieL)) = true := by
  have := text_l h
  exact ⟨by omega, text_ok h⟩
def odd82 : List Str := [Str.ofString "1 0 1", Str.ofString "1 0 1 1 1", Str.ofString "1  0 1 1", Str.ofString " 1 0 1 1", Str.ofString "1 0 1 1 ", Str.ofString "1 0 1 1\n", Str.ofString "\n", Str.ofString " ", Str.ofString "1 0 1 a", Str.ofString "01 0 1 1"]
theorem odd82_ok : ∀ w ∈ odd82, w.length ≤ 10000 ∧ PyData.strOk w = true := fun w hw => by
  have : odd82.all (fun w => decide (w.length ≤ 10000) && PyData.strOk w) = true := by decide +kernel
  have := List.all_eq_true.mp this w hw
  rw [Bool.and_eq_true] at this
  exact ⟨of_decide_eq_true this.1, this.2⟩

section
variable {P : Program} {w : World} {K : PySem.W.Frag} {mg : Str → Option Value} {base : Heap} {C : Str → Addr}
theorem ok_BadRow___init__ (T : G K mg C) : De P w K mg base 1 (C "BadRow") ["self", "place"] (spX1 K (C "BadRow") "place") :=
  T.d_BadRow___init__.ok sc_BadRow___init__ spX1_len (fun f cdv A outer s H vs Q E hr h => ⟨_, pss_one (ps_ost (pv 0) (pv 1)), x1_body h (fun _ _ q => q)⟩)
def sp_is_good (K : PySem.W.Frag) (C : Str → Addr) : Sp := CtF (fun a : Pie × Int => [Pc K a.1, I a.2]) (fun _ => True) (fun a => B (decide (gP a.1 a.2)))
theorem ok_is_good (T : G K mg C)  : Dn P w K mg base 1 "is_good" ["piece", "earliest"] (sp_is_good K C) := by
  refine T.d_is_good.ok sc_is_good (by first | exact CtF.len (fun _ => rfl) | exact CtE.len (fun _ => rfl) | exact CtR.len (fun _ => rfl) | exact CtM.len (fun _ => rfl) | exact CtO.len (fun _ => rfl) | exact CtRO.len (fun _ => rfl) | exact CtX.len (fun _ => rfl) | exact CtMX.len (fun _ => rfl) | exact CtME.len (fun _ => rfl) | exact CtG.len (fun _ => rfl) | exact CtOX.len (fun _ => rfl) | exact CtV.len (fun _ => rfl) | exact spOr_len (by first | exact CtR.len (fun _ => rfl) | exact CtM.len (fun _ => rfl) | exact CtG.len (fun _ => rfl) | exact CtF.len (fun _ => rfl) | exact CtRO.len (fun _ => rfl)) (by first | exact CtRO.len (fun _ => rfl) | exact CtN.len (fun _ => rfl) | exact CtR.len (fun _ => rfl) | exact CtG.len (fun _ => rfl) | exact CtM.len (fun _ => rfl)) | exact sp_is_good_len) (fun f cdv A outer s H vs Q E hr h => ?_)
  obtain ⟨⟨⟨at', who, len, sh⟩, e⟩, F, sFH, ha, hp, hq⟩ := h
  have c := ctx_start (N := ["piece", "earliest", "at", "who", "length", "share"]) sFH ha
  dsimp only at hq
  refine ⟨_, (pss_cons (ps_asg (pv 0) (show PG _ _ (gTup K 4 _) from pg_tup rfl (pgs_cons (pg_name (i := 2) sc_is_good.nd rfl (by first | exact Or.inl rfl | exact Or.inr rfl)) (pgs_cons (pg_name (i := 3) sc_is_good.nd rfl (by first | exact Or.inl rfl | exact Or.inr rfl)) (pgs_cons (pg_name (i := 4) sc_is_good.nd rfl (by first | exact Or.inl rfl | exact Or.inr rfl)) (pgs_cons (pg_name (i := 5) sc_is_good.nd rfl (by first | exact Or.inl rfl | exact Or.inr rfl)) pgs_nil))))))
    (pss_cons (ps_if (PW.pt (pw_or (pt_cmpR op_lt (pv 2) (pv 1) (nomark _)) (pw_or (pt_cmpR op_gt (pv 2) (pe_glob (v := .int 1000000000000) (by rfl) T.g_LATEST.choose_spec ⟨_, rfl⟩) (nomark _)) (pw_or (pt_cmpR op_lt (pv 3) pe_int (nomark _)) (pw_or1 (pt_cmpR op_ge (pv 3) (pe_glob (v := .int 12) (by rfl) T.g_SENDERS.choose_spec ⟨_, rfl⟩) (nomark _)))))))
      (pss_one (ps_ret pe_bl))
      pss_nil)
    (pss_one (ps_ret (pe_and (pe_chain op_le op_le pe_int (pv 4) (pe_glob (v := .int 1000000) (by rfl) T.g_GREATEST.choose_spec ⟨_, rfl⟩)) (pe_one (pe_chain op_le op_le pe_int (pv 5) (pe_glob (v := .int 1000000) (by rfl) T.g_GREATEST.choose_spec ⟨_, rfl⟩)))))))), ?_⟩
  refine sq (st_asg (R := Pc K (at', who, len, sh)) c (ev_var rfl) (gt_tup (gts_cons gt_name (gts_cons gt_name (gts_cons gt_name (gts_cons gt_name gts_nil))))) (fun F H σ c _ => ?_))
  refine sq (st_if c (et_or (et_test (ev_I0 (ev_var rfl) (ev_var rfl))) (fun hb => (et_or (et_test (ev_I0 (ev_var rfl) ev_c)) (fun hb => (et_or (et_test (ev_I0 (ev_var rfl) ev_c)) (fun hb => (et_test (ev_I0 (ev_var rfl) ev_c)))))))) (fun hb F H c _ => ?_) (fun hb F H c _ => ?_))
  · have hk : ¬ gP (at', who, len, sh) e := by
      unfold gP
      simp at hb
      dsimp only
      omega
    rw [decide_eq_false hk] at hq
    refine st_ret c ev_c (fun v F' H' c _ r => hq v F' H' c.ext c.sub ?_)
    exact r
  · refine nxt ?_
    have hk : gP (at', who, len, sh) e ↔ (1 ≤ len ∧ len ≤ 1000000) ∧ (1 ≤ sh ∧ sh ≤ 1000000) := by
      unfold gP
      simp at hb
      dsimp only
      omega
    refine st_ret c (ev_andV (ev_chain ev_c (ev_var rfl) ev_c) (fun hb => (ev_chain ev_c (ev_var rfl) ev_c))) (fun v F' H' c _ r => hq v F' H' c.ext c.sub ?_)
    have e2 : decide (gP (at', who, len, sh) e) = ((decide (1 ≤ len) && decide (len ≤ 1000000)) && (decide (1 ≤ sh) && decide (sh ≤ 1000000))) := by
      rw [Bool.eq_iff_iff]
      simp only [decide_eq_true_eq, Bool.and_eq_true]
      exact hk
    rw [e2]
    exact r
def sp_checked (K : PySem.W.Frag) (C : Str → Addr) : Sp := CtOX (fun a : List Pie => [Ls K (a.map (Pc K))]) (fun a => a.length ≤ 20000) (fun a => fbad 0 0 a = none) (fun a b => b = a) (fun b : List Pie => oL (b.map (Pc K))) (C "BadRow") (fun a => [("place", I ((bdO a).getD 0))])
theorem ok_checked (T : G K mg C) (D_is_good : Dn P w K mg base 1 "is_good" ["piece", "earliest"] (sp_is_good K C)) (D_BadRow___init__ : De P w K mg base 1 (C "BadRow") ["self", "place"] (spX1 K (C "BadRow") "place")) : Dn P w K mg base 3 "checked" ["row"] (sp_checked K C) := by
  refine T.d_checked.okX sc_checked (by first | exact CtF.len (fun _ => rfl) | exact CtE.len (fun _ => rfl) | exact CtR.len (fun _ => rfl) | exact CtM.len (fun _ => rfl) | exact CtO.len (fun _ => rfl) | exact CtRO.len (fun _ => rfl) | exact CtX.len (fun _ => rfl) | exact CtMX.len (fun _ => rfl) | exact CtME.len (fun _ => rfl) | exact CtG.len (fun _ => rfl) | exact CtOX.len (fun _ => rfl) | exact CtV.len (fun _ => rfl) | exact spOr_len (by first | exact CtR.len (fun _ => rfl) | exact CtM.len (fun _ => rfl) | exact CtG.len (fun _ => rfl) | exact CtF.len (fun _ => rfl) | exact CtRO.len (fun _ => rfl)) (by first | exact CtRO.len (fun _ => rfl) | exact CtN.len (fun _ => rfl) | exact CtR.len (fun _ => rfl) | exact CtG.len (fun _ => rfl) | exact CtM.len (fun _ => rfl)) | exact sp_checked_len) (fun f cdv A outer s H vs Q E hr h => ?_)
  obtain ⟨row, F, sFH, ha, hln, hq, hx⟩ := h
  have c := ctx_start (N := ["row", "earliest", "place", "piece"]) sFH ha
  dsimp only at hln hq hx
  refine ⟨_, (pss_cons (ps_set (i := 1) sc_checked.nd rfl (by first | exact Or.inl rfl | exact Or.inr rfl) pe_int)
    (pss_cons (ps_for (by passes_own) rfl (pi_enum (by rfl) T.b_enumerate (pa_cons (pv 0) pa_nil)) (show PG _ _ (gTup K 2 _) from pg_tup rfl (pgs_cons (pg_name (i := 2) sc_checked.nd rfl (by first | exact Or.inl rfl | exact Or.inr rfl)) (pgs_cons (pg_name (i := 3) sc_checked.nd rfl (by first | exact Or.inl rfl | exact Or.inr rfl)) pgs_nil)))
      (pss_cons (ps_if (PW.pt (pw_or (pt_cmpR op_ge (pv 2) (pe_glob (v := .int 60) (by rfl) T.g_MANY.choose_spec ⟨_, rfl⟩) (nomark _)) (pw_or1 (pt_not (pt_val (pe_d D_is_good (hr.mono (by decide)) (by rfl) (pa_cons (pv 3) (pa_cons (pv 1) pa_nil))))))))
        (pss_one (L2N.ps_raise rfl (L2N.takes_of rfl rfl rfl rfl) (pmk_de T.d_BadRow___init__ D_BadRow___init__ (hr.mono (by decide)) (by rfl) (pa_cons (pv 2) pa_nil))))
        pss_nil)
      (pss_one (ps_set (i := 1) sc_checked.nd rfl (by first | exact Or.inl rfl | exact Or.inr rfl) (pe_ix (show IxR _ (rIxT K) from ix_tup) (pv 3) pe_int (fun _ _ => rfl))))))
    (pss_one (ps_ret (pe_callTy call_list_of (by rfl) T.b_list (by decide +kernel) (pa_cons (pv 0) pa_nil)))))), ?_⟩
  refine sq (st_set c ev_c (fun F H σ c _ => ?_))
  refine sq (st_forS (xs := row.zipIdx) (f := Et K (Pc K)) (fun i : Int × Option As × Option As => [some (Ls K (row.map (Pc K))), some (I i.1), i.2.1, i.2.2]) (fun y i => [some (Ls K (row.map (Pc K))), some (I i.1), some (I (y.2 : Int)), some (Pc K y.1)]) (fun _ => []) (fun j i => fbad j i.1 (row.drop j) = fbad 0 0 row) (0, none, none) c (src_e (ea_cons (ev_var rfl) ea_nil)) rfl (fun x i => gt_tup (gts_cons gt_name (gts_cons gt_name gts_nil))) ?_ ?_)
  · rintro j ⟨p, w⟩ ⟨e, o1, o2⟩ G1 F H σ M hk hf c hM
    dsimp only at hf c
    rw [List.getElem?_zipIdx] at hk
    obtain ⟨p', hp', es⟩ := Option.map_eq_some_iff.mp hk
    have es1 : p' = p := congrArg Prod.fst es
    have ew : 0 + j = w := congrArg Prod.snd es
    have ew : j = w := by omega
    subst es1 ew
    rw [fbad_step hp'] at hf
    refine sq (st_if c (et_or (et_test (ev_I0 (ev_var rfl) ev_c)) (fun hb => (et_not (et_B (ev_call (_, _) (ea_cons (ev_var rfl) (ea_cons (ev_var rfl) ea_nil)) (by exact trivial)))))) (fun hb F H c _ => ?_) (fun hb F H c _ => ?_))
    · have hc : ¬ (j < 60 ∧ gP p' e) := by
        simp at hb
        intro ⟨z1, z2⟩
        rcases hb with w | w
        · omega
        · exact w z2
      rw [if_neg hc] at hf
      have eb : bdO row = some (j : Int) := by unfold bdO; rw [← hf]; rfl
      have hng : ¬ fbad 0 0 row = none := by rw [← hf]; intro z; cases z
      refine mk_x1 c T.d_BadRow___init__.ox T.m_BadRow_place (ea_cons (ev_var rfl) ea_nil) (fun x F H c _ hd => ?_)
      refine hx hng x F H c.ext c.sub ?_ hd
      rw [eb]
      exact c.own
    · have hc : j < 60 ∧ gP p' e := by
        simp at hb
        exact ⟨by omega, hb.2⟩
      rw [if_pos hc] at hf
      refine nxt ?_
      refine st_set c (ev_ixT (K := K) (ev_var rfl) ev_c rfl) (fun F H σ c _ => ?_)
      exact hM (p'.1, some (I (j : Int)), some (Pc K p')) F H σ hf c
  · rintro ⟨e, o1, o2⟩ F H σ hf c
    dsimp only at hf c
    have hg : fbad 0 0 row = none := by rw [← hf, List.length_zipIdx, List.drop_length]; rfl
    exact st_retO c (eo_listLk (lk (ev_var rfl))) (fun p F' H' c _ hn => hq hg row p F' H' rfl c.ext c.sub (own_head c) hn)
def sp_is_number (K : PySem.W.Frag) (C : Str → Addr) : Sp := CtF (fun a : Str × Int => [S a.1, I a.2]) (fun a => a.1.length ≤ 100000) (fun a => B (isNum a.1 a.2))
theorem ok_is_number (T : G K mg C)  : Dn P w K mg base 1 "is_number" ["word", "most"] (sp_is_number K C) := by
  refine T.d_is_number.ok sc_is_number (by first | exact CtF.len (fun _ => rfl) | exact CtE.len (fun _ => rfl) | exact CtR.len (fun _ => rfl) | exact CtM.len (fun _ => rfl) | exact CtO.len (fun _ => rfl) | exact CtRO.len (fun _ => rfl) | exact CtX.len (fun _ => rfl) | exact CtMX.len (fun _ => rfl) | exact CtME.len (fun _ => rfl) | exact CtG.len (fun _ => rfl) | exact CtOX.len (fun _ => rfl) | exact CtV.len (fun _ => rfl) | exact spOr_len (by first | exact CtR.len (fun _ => rfl) | exact CtM.len (fun _ => rfl) | exact CtG.len (fun _ => rfl) | exact CtF.len (fun _ => rfl) | exact CtRO.len (fun _ => rfl)) (by first | exact CtRO.len (fun _ => rfl) | exact CtN.len (fun _ => rfl) | exact CtR.len (fun _ => rfl) | exact CtG.len (fun _ => rfl) | exact CtM.len (fun _ => rfl)) | exact sp_is_number_len) (fun f cdv A outer s H vs Q E hr h => ?_)
  obtain ⟨⟨w, m⟩, F, sFH, ha, hl, hq⟩ := h
  have c := ctx_start (N := ["word", "most", "sign"]) sFH ha
  dsimp only at hl hq
  have c : Ctx ⟨F, H, [], F, []⟩ F H _ [some (S w), some (I m), none] [] := c
  refine ⟨_, (pss_cons (ps_if (PW.pt (pw_or (pt_cmpR op_lt (pe_callB call_len_str (by rfl) T.b_len (by decide +kernel) (pa_cons (pv 0) pa_nil)) pe_int (nomark _)) (pw_or1 (pt_cmpR op_gt (pe_callB call_len_str (by rfl) T.b_len (by decide +kernel) (pa_cons (pv 0) pa_nil)) (pv 1) (nomark _)))))
      (pss_one (ps_ret pe_bl))
      pss_nil)
    (pss_cons (ps_if (pt_not (pt_val (pe_callB (cr_all rfl) (by rfl) T.b_all (by decide +kernel) (pa_cons (by exact (pe_lc (own := [("sign", 2)]) rfl sc_is_number.nd (pi_str (pv 0)) (blkOk_by (N := ["word", "most", "sign"]) (sc := defScope s_is_number) (by decide +kernel)) (fun _ _ _ _ _ => (pg_name (i := 2) sc_is_number.nd rfl (by first | exact Or.inl rfl | exact Or.inr rfl))) (fun _ _ _ _ _ => pts_nil) (fun _ _ _ _ _ => (pe_cmpR op_in_str (pv 2) (pe_glob (v := .str "0123456789") (by rfl) T.u_FIGURES.choose_spec ⟨_, rfl⟩) (by rfl))))) pa_nil))))
      (pss_one (ps_ret pe_bl))
      pss_nil)
    (pss_one (ps_ret (pe_or (pe_cmpR op_eq (pv 0) pe_str (nomark _)) (pe_one (pe_cmpR op_ne (pe_ix ix_str (pv 0) pe_int (fun _ _ => rfl)) pe_str (nomark _)))))))), ?_⟩
  have hlc : w.cps.toList.length = w.length := len_cps w
  refine sq (st_if (b := decide ((w.length : Int) < 1) || decide (m < (w.length : Int))) c (et_or (et_test (ev_I0 (ev_cb (ea_cons (ev_var rfl) ea_nil) (rc_lenT2 hl)) ev_c)) (fun hb => (et_is (et_test (ev_I0 (ev_cb (ea_cons (ev_var rfl) ea_nil) (rc_lenT2 hl)) (ev_var rfl))) rfl))) (fun hb F H c _ => ?_) (fun hb F H c _ => nxt ?_))
  · refine st_ret c ev_c (fun v F' H' c _ r => hq v F' H' c.ext c.sub ?_)
    have e : isNum w m = false := by unfold isNum; rw [hb]; rfl
    rw [e]; exact r
  refine sq (st_if (b := !w.cps.toList.all dgB) c (et_not (et_B (ev_cb (ea_cons (ev_lcSA (K := K) (xs := w.cps.toList) (f := fun k : Nat => S ⟨#[k]⟩) (fun k => [some (S w), some (I m), some (S ⟨#[k]⟩)]) (fun k => B (dgB k)) (src_s (ev_var rfl)) (fun x => gt_name) (by decide) (fun x hx => (ev_inC (ev_var rfl) ev_c)) (by omega)) ea_nil) rc_all))) (fun hb2 F H c _ => ?_) (fun hb2 F H c _ => nxt ?_))
  · refine st_ret c ev_c (fun v F' H' c _ r => hq v F' H' c.ext c.sub ?_)
    have hb2 : w.cps.toList.all dgB = false := by simpa using hb2
    have e : isNum w m = false := by unfold isNum; rw [hb2, Bool.false_and, Bool.and_false]
    rw [e]; exact r
  have hb2 : w.cps.toList.all dgB = true := by simpa using hb2
  have hne : 0 < w.cps.toList.length := by
    have := (Bool.or_eq_false_iff.mp hb).1
    have := of_decide_eq_false this
    omega
  have hat : atI w.cps.toList 0 = some (w.cps.toList[0]'hne) := atI_nat (j := 0) (List.getElem?_eq_getElem hne)
  have e : isNum w m = (decide (w = zeroT) || !decide (w.cps.toList.head? = some 48)) := by unfold isNum; rw [hb, hb2]; rfl
  rw [e] at hq
  refine st_ret c (ev_orV (ev_eqS (ev_var rfl) (ev_is ev_c rfl)) (fun _ => ev_is (ev_neS (ev_ixS (ev_var rfl) ev_c ⟨Nat.le_trans hl (by decide), hat⟩) ev_c) (congrArg B ?_))) (fun v F' H' c _ r => hq v F' H' c.ext c.sub r)
  congr 1
  rw [decide_eq_decide, List.head?_eq_getElem?, List.getElem?_eq_getElem hne]
  constructor
  · intro z
    have := congrArg (fun s : Str => s.cps.toList) z
    have e2 : (Str.ofString "0").cps.toList = [48] := zeroT_cps
    dsimp only at this
    have e3 : (([w.cps.toList[0]] : List Nat)) = [48] := this.trans e2
    exact congrArg some (List.head_eq_of_cons_eq e3)
  · intro z
    rw [Option.some.inj z]
    exact str_inj zeroT_cps.symm
def sp_number_of (K : PySem.W.Frag) (C : Str → Addr) : Sp := CtE (fun w : Str => [S w]) (fun w => w.length ≤ 10000) (fun w => I (numV w : Int)) (fun w => isNum w 15 = true) (C "NoText")
theorem ok_number_of (T : G K mg C) (D_is_number : Dn P w K mg base 1 "is_number" ["word", "most"] (sp_is_number K C)) : Dn P w K mg base 2 "number_of" ["word"] (sp_number_of K C) := by
  refine T.d_number_of.okX sc_number_of (by first | exact CtF.len (fun _ => rfl) | exact CtE.len (fun _ => rfl) | exact CtR.len (fun _ => rfl) | exact CtM.len (fun _ => rfl) | exact CtO.len (fun _ => rfl) | exact CtRO.len (fun _ => rfl) | exact CtX.len (fun _ => rfl) | exact CtMX.len (fun _ => rfl) | exact CtME.len (fun _ => rfl) | exact CtG.len (fun _ => rfl) | exact CtOX.len (fun _ => rfl) | exact CtV.len (fun _ => rfl) | exact spOr_len (by first | exact CtR.len (fun _ => rfl) | exact CtM.len (fun _ => rfl) | exact CtG.len (fun _ => rfl) | exact CtF.len (fun _ => rfl) | exact CtRO.len (fun _ => rfl)) (by first | exact CtRO.len (fun _ => rfl) | exact CtN.len (fun _ => rfl) | exact CtR.len (fun _ => rfl) | exact CtG.len (fun _ => rfl) | exact CtM.len (fun _ => rfl)) | exact sp_number_of_len) (fun f cdv A outer s H vs Q E hr h => ?_)
  obtain ⟨w, F, sFH, ha, hl, hq, hx⟩ := h
  have c := ctx_start (N := ["word"]) sFH ha
  dsimp only at hl hq hx
  refine ⟨_, (pss_cons (ps_if (pt_not (pt_val (pe_d D_is_number (hr.mono (by decide)) (by rfl) (pa_cons (pv 0) (pa_cons pe_int pa_nil)))))
      (pss_one (L2N.ps_raise rfl (L2N.takes_of rfl rfl rfl rfl) (L2N.pmk_own PySem.F.excBase_ValueError T.x_NoText.ex T.x_NoText.gC T.x_NoText.kC (raises_own T.x_NoText.sB T.x_NoText.tC) (by exact rfl))))
      pss_nil)
    (pss_one (ps_ret (pe_callTy (show CallR _ (Value.type "int") rIntS from call_int_str) (by rfl) T.b_int (by decide +kernel) (pa_cons (pv 0) pa_nil))))), ?_⟩
  refine sq (st_if (b := !isNum w 15) c (et_not (et_B (ev_call (w, (15 : Int)) (ea_cons (ev_var rfl) (ea_cons ev_c ea_nil)) (show w.length ≤ 100000 by omega)))) (fun hb F H c _ => ?_) (fun hb F H c _ => nxt ?_))
  · have hb : isNum w 15 = false := by simpa using hb
    exact hx (by rw [hb]; decide) F H c.ext c.sub
  have hb : isNum w 15 = true := by simpa using hb
  obtain ⟨N, l⟩ := isNum_iff.mp hb
  exact st_ret c (ev_cb (ea_cons (ev_var rfl) ea_nil) (rc_intS (N.val (by omega)) (by omega))) (fun v F' H' c _ r => hq hb v F' H' c.ext c.sub r)
def sp_show_row (K : PySem.W.Frag) (C : Str → Addr) : Sp := CtF (fun row : List Pie => [Ls K (row.map (Pc K))]) (fun row => row.length ≤ 100 ∧ ∀ p ∈ row, GoodI p) (fun row => S (textW (row.map pieL)))
theorem ok_show_row (T : G K mg C)  : Dn P w K mg base 1 "show_row" ["row"] (sp_show_row K C) := by
  refine T.d_show_row.ok sc_show_row (by first | exact CtF.len (fun _ => rfl) | exact CtE.len (fun _ => rfl) | exact CtR.len (fun _ => rfl) | exact CtM.len (fun _ => rfl) | exact CtO.len (fun _ => rfl) | exact CtRO.len (fun _ => rfl) | exact CtX.len (fun _ => rfl) | exact CtMX.len (fun _ => rfl) | exact CtME.len (fun _ => rfl) | exact CtG.len (fun _ => rfl) | exact CtOX.len (fun _ => rfl) | exact CtV.len (fun _ => rfl) | exact spOr_len (by first | exact CtR.len (fun _ => rfl) | exact CtM.len (fun _ => rfl) | exact CtG.len (fun _ => rfl) | exact CtF.len (fun _ => rfl) | exact CtRO.len (fun _ => rfl)) (by first | exact CtRO.len (fun _ => rfl) | exact CtN.len (fun _ => rfl) | exact CtR.len (fun _ => rfl) | exact CtG.len (fun _ => rfl) | exact CtM.len (fun _ => rfl)) | exact sp_show_row_len) (fun f cdv A outer s H vs Q E hr h => ?_)
  obtain ⟨row, F, sFH, ha, ⟨hl, hg⟩, hq⟩ := h
  have c := ctx_start (N := ["row", "piece", "number"]) sFH ha
  dsimp only at hl hg hq
  have c : Ctx ⟨F, H, [], F, []⟩ F H _ [some (Ls K (row.map (Pc K))), none, none] [] := c
  refine ⟨_, (pss_one (ps_ret (pe_bmK (K := K) rfl (r := (rJoin K)) PySem.F.plainAttrs_str PySem.F.slot_str_join PySem.F.type_str_join (by exact mt_join) pe_str (pa_cons (by exact (pe_lc (own := [("piece", 1)]) rfl sc_show_row.nd (pi_list (pv 0)) (blkOk_by (N := ["row", "piece", "number"]) (sc := defScope s_show_row) (by decide +kernel)) (fun _ _ _ _ _ => (pg_name (i := 1) sc_show_row.nd rfl (by first | exact Or.inl rfl | exact Or.inr rfl))) (fun _ _ _ _ _ => pts_nil) (fun _ _ _ _ _ => (pe_bmK (K := K) rfl (r := (rJoin K)) PySem.F.plainAttrs_str PySem.F.slot_str_join PySem.F.type_str_join (by exact mt_join) pe_str (pa_cons (by exact (pe_lc (own := [("number", 2)]) rfl sc_show_row.nd (pi_tupK (K := K) rfl (pv 1)) (blkOk_nf (N := ["row", "piece", "number"]) (by decide +kernel) (by decide +kernel)) (fun _ _ _ _ _ => (pg_name (i := 2) sc_show_row.nd rfl (by first | exact Or.inl rfl | exact Or.inr rfl))) (fun _ _ _ _ _ => pts_nil) (fun _ _ _ _ _ => (pe_callTy (show CallR _ (Value.type "str") rStrI from call_str_int) (by rfl) T.b_str (by decide +kernel) (pa_cons (pv 2) pa_nil))))) pa_nil))))) pa_nil)))), ?_⟩
  refine st_ret c (ev_join (K := K) (x := Str.ofString "\n") (ys := (row.map pieL).map lineW) ev_c (ev_is (ev_lcSA (K := K) (xs := row) (f := Pc K) (fun p => [some (Ls K (row.map (Pc K))), some (Pc K p), none]) (fun p => S (lineW (pieL p))) (src_l (ev_var rfl)) (fun x => gt_name) (by decide) (fun p hp => (ev_join (K := K) (x := Str.ofString " ") (ys := (pieL p).map strI) ev_c (ev_is (ev_lcSA (K := K) (xs := pieL p) (f := fun n : Int => I n) (fun n => [some (Ls K (row.map (Pc K))), some (Pc K p), some (I n)]) (fun n => S (strI n)) (src_t (ev_is (ev_var rfl) rfl)) (fun x => gt_name) (by decide) (fun n hn => (ev_cb (ea_cons (ev_var rfl) ea_nil) (rc_strI (num_log (hg p hp n hn).1 (hg p hp n hn).2)))) (show 4 ≤ 100000 by decide)) (by rw [List.map_map]; rfl)) (line_sums (hg p hp)))) (by omega)) (by rw [List.map_map, List.map_map]; rfl)) (text_sums hl hg)) (fun v F' H' c _ r => hq v F' H' c.ext c.sub r)
def sp_read_piece (K : PySem.W.Frag) (C : Str → Addr) : Sp := CtE (fun x : Str => [S x]) (fun x => x.length ≤ 10000) (fun x => Pc K ((pieO x).getD (0, 0, 0, 0))) (fun x => (pieO x).isSome = true) (C "NoText")
theorem ok_read_piece (T : G K mg C) (D_number_of : Dn P w K mg base 2 "number_of" ["word"] (sp_number_of K C)) : Dn P w K mg base 3 "read_piece" ["line"] (sp_read_piece K C) := by
  refine T.d_read_piece.okX sc_read_piece (by first | exact CtF.len (fun _ => rfl) | exact CtE.len (fun _ => rfl) | exact CtR.len (fun _ => rfl) | exact CtM.len (fun _ => rfl) | exact CtO.len (fun _ => rfl) | exact CtRO.len (fun _ => rfl) | exact CtX.len (fun _ => rfl) | exact CtMX.len (fun _ => rfl) | exact CtME.len (fun _ => rfl) | exact CtG.len (fun _ => rfl) | exact CtOX.len (fun _ => rfl) | exact CtV.len (fun _ => rfl) | exact spOr_len (by first | exact CtR.len (fun _ => rfl) | exact CtM.len (fun _ => rfl) | exact CtG.len (fun _ => rfl) | exact CtF.len (fun _ => rfl) | exact CtRO.len (fun _ => rfl)) (by first | exact CtRO.len (fun _ => rfl) | exact CtN.len (fun _ => rfl) | exact CtR.len (fun _ => rfl) | exact CtG.len (fun _ => rfl) | exact CtM.len (fun _ => rfl)) | exact sp_read_piece_len) (fun f cdv A outer s H vs Q E hr h => ?_)
  obtain ⟨x, F, sFH, ha, hl, hq, hx⟩ := h
  have c := ctx_start (N := ["line", "words", "numbers", "word"]) sFH ha
  dsimp only at hl hq hx
  have c : Ctx ⟨F, H, [], F, []⟩ F H _ [some (S x), none, none, none] [] := c
  refine ⟨_, (pss_cons (ps_set (i := 1) sc_read_piece.nd rfl (by first | exact Or.inl rfl | exact Or.inr rfl) (pe_bmK (K := K) rfl (r := rSplit) PySem.F.plainAttrs_str PySem.F.slot_str_split PySem.F.type_str_split (by exact mt_split) (pv 0) (pa_cons pe_str pa_nil)))
    (pss_cons (ps_if (pt_cmpR op_ne (pe_callB call_len_seq (by rfl) T.b_len (by decide +kernel) (pa_cons (pv 1) pa_nil)) pe_int (nomark _))
      (pss_one (L2N.ps_raise rfl (L2N.takes_of rfl rfl rfl rfl) (L2N.pmk_own PySem.F.excBase_ValueError T.x_NoText.ex T.x_NoText.gC T.x_NoText.kC (raises_own T.x_NoText.sB T.x_NoText.tC) (by exact rfl))))
      pss_nil)
    (pss_cons (by exact (ps_setLcE (i := 2) (own := [("word", 3)]) rfl rfl (L2N.takes_of rfl rfl rfl rfl) rfl sc_read_piece.nd rfl rfl (sw_true rfl rfl rfl (by decide +kernel)) (pi_list (pv 1)) (blkOk_by (N := ["line", "words", "numbers", "word"]) (sc := defScope s_read_piece) (by decide +kernel)) (fun _ _ _ _ _ => (pg_name (i := 3) sc_read_piece.nd rfl (by first | exact Or.inl rfl | exact Or.inr rfl))) (fun _ _ _ _ _ => pts_nil) (fun _ _ _ _ _ _ hxB => (pe_dB hxB D_number_of (hr.mono (by decide)) (by rfl) (pa_cons (pv 3) pa_nil)))))
    (pss_one (ps_ret (pe_tup (pa_cons (pe_ix (show IxR _ (rIxL K) from ix_list) (pv 2) pe_int (fun _ _ => rfl)) (pa_cons (pe_ix (show IxR _ (rIxL K) from ix_list) (pv 2) pe_int (fun _ _ => rfl)) (pa_cons (pe_ix (show IxR _ (rIxL K) from ix_list) (pv 2) pe_int (fun _ _ => rfl)) (pa_cons (pe_ix (show IxR _ (rIxL K) from ix_list) (pv 2) pe_int (fun _ _ => rfl)) pa_nil)))))))))), ?_⟩
  have hsb : (16777216 : Nat) ≤ sizeLine := by decide
  obtain ⟨z1, z2⟩ := bl_sz x
  obtain ⟨ws, ews⟩ : ∃ ws, Txt.split x blT = ws := ⟨_, rfl⟩
  rw [ews] at z1 z2
  refine sq (st_set (R := Ls K (ws.map fun z => S z)) c (ev_is (ev_split (K := K) (ev_var rfl) ev_c (by decide +kernel) (by omega)) (by show Ls K ((Txt.split x blT).map fun z => S z) = _; rw [ews])) (fun F H σ c _ => ?_))
  have c : Ctx _ F H σ [some (S x), some (Ls K (ws.map fun z => S z)), none, none] [] := c
  refine sq (st_if (b := !decide ((ws.length : Int) = 4)) c (et_is (et_test (ev_neI (ev_lenLk (K := K) (lk (ev_var rfl))) ev_c)) (by rw [List.length_map])) (fun hb F H c _ => ?_) (fun hb F H c _ => nxt ?_))
  · have hb : ¬ (ws.length : Int) = 4 := by simpa using hb
    refine hx (fun z => ?_) F H c.ext c.sub
    have e : pieO x = none := by
      unfold pieO
      rw [ews]
      match ws, hb with
      | [], _ => rfl
      | [a], _ => simp [pie4]
      | [a, b], _ => simp [pie4]
      | [a, b, d], _ => simp [pie4]
      | [a, b, d, e], hb => exact absurd rfl hb
      | a :: b :: d :: e :: f :: r, _ => simp [pie4]
    rw [e] at z
    cases z
  have hb : (ws.length : Int) = 4 := by simpa using hb
  obtain ⟨a, b, d, e, e4⟩ : ∃ a b d e, ws = [a, b, d, e] := by
    match ws, hb with
    | [a, b, d, e], _ => exact ⟨a, b, d, e, rfl⟩
    | [], h => cases h
    | [a], h => cases h
    | [a, b], h => cases h
    | [a, b, d], h => cases h
    | a :: b :: d :: e :: f :: r, h => rw [List.length_cons, List.length_cons, List.length_cons, List.length_cons, List.length_cons] at h; omega
  have wl : ∀ w ∈ ws, w.length ≤ 10000 := fun w hw => by have := (z1 w hw).1; omega
  have ep : pieO x = pie4 (ws.map numO) := by unfold pieO; rw [ews]
  rcases first_no (ws.map numO) with ⟨vs, ev⟩ | ⟨n, en, hn⟩
  · have hall : ∀ w ∈ ws, isNum w 15 = true ∧ numO w = some (numV w : Int) := fun w hw => by
      have hm : numO w ∈ ws.map numO := List.mem_map.mpr ⟨w, hw, rfl⟩
      rw [ev] at hm
      obtain ⟨v, _, e0⟩ := List.mem_map.mp hm
      have : isNum w 15 = true := by
        refine Classical.byContradiction fun z => ?_
        unfold numO at e0
        rw [if_neg z] at e0
        cases e0
      exact ⟨this, by unfold numO; rw [if_pos this]⟩
    have eP : pieO x = some ((numV a : Int), (numV b : Int), (numV d : Int), (numV e : Int)) := by
      rw [ep, e4]
      show pie4 [numO a, numO b, numO d, numO e] = _
      rw [(hall a (by rw [e4]; simp)).2, (hall b (by rw [e4]; simp)).2, (hall d (by rw [e4]; simp)).2, (hall e (by rw [e4]; simp)).2]
      rfl
    refine sq (st_set (R := Ls K (ws.map fun w => I (numV w : Int))) c (ev_lcSA (K := K) (xs := ws) (f := fun z => S z) _ (fun w => I (numV w : Int)) (src_l (ev_var rfl)) (fun x => gt_name) (by decide) (fun w hw => (ev_callES w (ea_cons (ev_var rfl) ea_nil) (wl w hw) (hall w hw).1)) (by omega)) (fun F H σ c _ => ?_))
    rw [e4] at c
    rw [eP] at hq
    exact st_ret c (ev_pc (K := K) (ea_cons (ev_ixLk (K := K) (R := I (numV a : Int)) (lk (ev_var rfl)) ev_c rfl) (ea_cons (ev_ixLk (K := K) (R := I (numV b : Int)) (lk (ev_var rfl)) ev_c rfl) (ea_cons (ev_ixLk (K := K) (R := I (numV d : Int)) (lk (ev_var rfl)) ev_c rfl) (ea_cons (ev_ixLk (K := K) (R := I (numV e : Int)) (lk (ev_var rfl)) ev_c rfl) ea_nil))))) (fun v F' H' c _ r => hq rfl v F' H' c.ext c.sub r)
  · rw [List.getElem?_map] at en
    obtain ⟨w, hw, ew⟩ := Option.map_eq_some_iff.mp en
    have hwm := List.mem_of_getElem? hw
    have hnw : ¬ isNum w 15 = true := fun z => by
      unfold numO at ew
      rw [if_pos z] at ew
      cases ew
    refine sq (rz_asg c (rz_lc (E := E) (xs := ws) (f := fun z => S z) _ (fun w => I (numV w : Int)) (src_l (ev_var rfl)) (fun x => gt_name) (by decide) hw (fun u hu => (ev_callES u (ea_cons (ev_var rfl) ea_nil) (wl u (List.mem_of_mem_take hu)) (by
      obtain ⟨v, ev⟩ := hn (numO u) (by rw [← List.map_take]; exact List.mem_map.mpr ⟨u, hu, rfl⟩)
      refine Classical.byContradiction fun z => ?_
      unfold numO at ev
      rw [if_neg z] at ev
      cases ev))) (rz_callE w (ea_cons (ev_var rfl) ea_nil) (wl w hwm) hnw) (by omega)) (fun F H c _ => hx (fun z => ?_) F H c.ext c.sub))
    have e0 : pieO x = none := by
      rw [ep, e4]
      show pie4 [numO a, numO b, numO d, numO e] = none
      rw [e4] at en
      have e5 : ([numO a, numO b, numO d, numO e] : List (Option Int))[n]? = some none := by
        rw [← en, ← List.getElem?_map]; rfl
      match n, e5 with
      | 0, h => rw [Option.some.inj h]; rfl
      | 1, h => rw [Option.some.inj h]; cases numO a <;> rfl
      | 2, h => rw [Option.some.inj h]; cases numO a <;> cases numO b <;> rfl
      | 3, h => rw [Option.some.inj h]; cases numO a <;> cases numO b <;> cases numO d <;> rfl
      | n + 4, h => cases h
    rw [e0] at z
    cases z
def sp_read_row (K : PySem.W.Frag) (C : Str → Addr) : Sp := spOr (CtN (fun x : Str => [S x]) (fun _ => []) (fun x => x.length ≤ 10000 ∧ rowO x = none) (fun _ => C "NoText")) (CtX (fun x : Str => [S x]) (fun x => x.length ≤ 10000 ∧ (rowO x).isSome = true) (fun x => fbad 0 0 ((rowO x).getD []) = none) (fun x => Ls K (((rowO x).getD []).map (Pc K))) (C "BadRow") (fun x => [("place", I ((bdO ((rowO x).getD [])).getD 0))]))
theorem sp_read_row_len {K : PySem.W.Frag} {C : Str → Addr} : ∀ vs H Q E, sp_read_row K C vs H Q E → vs.length = 1 := spOr_len (CtN.len fun _ => rfl) (CtX.len fun _ => rfl)
theorem ok_read_row (T : G K mg C) (D_read_piece : Dn P w K mg base 3 "read_piece" ["line"] (sp_read_piece K C)) (D_checked : Dn P w K mg base 3 "checked" ["row"] (sp_checked K C)) : Dn P w K mg base 4 "read_row" ["text"] (sp_read_row K C) := by
  refine T.d_read_row.okX sc_read_row (by first | exact CtF.len (fun _ => rfl) | exact CtE.len (fun _ => rfl) | exact CtR.len (fun _ => rfl) | exact CtM.len (fun _ => rfl) | exact CtO.len (fun _ => rfl) | exact CtRO.len (fun _ => rfl) | exact CtX.len (fun _ => rfl) | exact CtMX.len (fun _ => rfl) | exact CtME.len (fun _ => rfl) | exact CtG.len (fun _ => rfl) | exact CtOX.len (fun _ => rfl) | exact CtV.len (fun _ => rfl) | exact spOr_len (by first | exact CtR.len (fun _ => rfl) | exact CtM.len (fun _ => rfl) | exact CtG.len (fun _ => rfl) | exact CtF.len (fun _ => rfl) | exact CtRO.len (fun _ => rfl)) (by first | exact CtRO.len (fun _ => rfl) | exact CtN.len (fun _ => rfl) | exact CtR.len (fun _ => rfl) | exact CtG.len (fun _ => rfl) | exact CtM.len (fun _ => rfl)) | exact sp_read_row_len) (fun f cdv A outer s H vs Q E hr h => ?_)
  skip
  refine ⟨_, (pss_cons (ps_if (pt_cmpR op_eq (pv 0) pe_str (nomark _))
      (pss_one (ps_ret (pe_lst pa_nil)))
      pss_nil)
    (pss_one (ps_ret (pe_dS (L2N.takes_of rfl rfl rfl rfl) D_checked (hr.mono (by decide)) (by rfl) (pa_cons (by exact (pe_lcE (own := [("line", 1)]) rfl rfl (L2N.takes_of rfl rfl rfl rfl) rfl sc_read_row.nd (pi_list (pe_bmK (K := K) rfl (r := rSplit) PySem.F.plainAttrs_str PySem.F.slot_str_split PySem.F.type_str_split (by exact mt_split) (pv 0) (pa_cons pe_str pa_nil))) (blkOk_by (N := ["text", "line"]) (sc := defScope s_read_row) (by decide +kernel)) (fun _ _ _ _ _ => (pg_name (i := 1) sc_read_row.nd rfl (by first | exact Or.inl rfl | exact Or.inr rfl))) (fun _ _ _ _ _ => pts_nil) (fun _ _ _ _ _ _ hxB => (pe_dB hxB D_read_piece (hr.mono (by decide)) (by rfl) (pa_cons (pv 1) pa_nil))))) pa_nil))))), ?_⟩
  have hsb : (16777216 : Nat) ≤ sizeLine := by decide
  rcases h with h | h
  · obtain ⟨x, F, sFH, ha, ho, nd, ⟨hl, hn⟩, hx⟩ := h
    have c := ctx_start (N := ["text", "line"]) sFH ha
    dsimp only at hl hn hx
    have c : Ctx ⟨F, H, [], F, []⟩ F H _ [some (S x), none] [] := c
    have hne : ¬ x = Str.empty := fun z => by
      unfold rowO at hn
      rw [if_pos z] at hn
      cases hn
    refine sq (st_if (b := false) c (et_is (et_test (ev_eqS (ev_var rfl) (ev_is ev_c (show S (Str.ofString "") = S Str.empty from rfl)))) (decide_eq_false hne)) (fun hb F H c _ => (by cases hb)) (fun hb F H c _ => nxt ?_))
    unfold rowO at hn
    rw [if_neg hne] at hn
    obtain ⟨z1, z2⟩ := lf_sz x
    obtain ⟨ls, els⟩ : ∃ ls, Txt.split x lfT = ls := ⟨_, rfl⟩
    rw [els] at z1 z2 hn
    rcases first_no (ls.map pieO) with ⟨vs, ev⟩ | ⟨n, en, hnn⟩
    · rw [ev, allO_some] at hn
      cases hn
    · rw [List.getElem?_map] at en
      obtain ⟨w, hw, ew⟩ := Option.map_eq_some_iff.mp en
      have hwm := List.mem_of_getElem? hw
      refine rz_ret c (rz_callSA (rza_head (rz_lc (E := E) (xs := ls) (f := fun z => S z) (fun z => [some (S x), some (S z)]) (fun w => Pc K ((pieO w).getD (0, 0, 0, 0))) (src_l (ev_is (ev_split (K := K) (ev_var rfl) ev_c (by decide +kernel) (by omega)) (by show Ls K ((Txt.split x lfT).map fun z => S z) = Ls K (ls.map fun z => S z); rw [els]))) (fun x => gt_name) (by decide) hw (fun u hu => (ev_callES u (ea_cons (ev_var rfl) ea_nil) (by have := (z1 u (List.mem_of_mem_take hu)).1; omega) (by
        obtain ⟨v, ev⟩ := hnn (pieO u) (by rw [← List.map_take]; exact List.mem_map.mpr ⟨u, hu, rfl⟩)
        show (pieO u).isSome = true
        rw [ev]; rfl))) (rz_callE w (ea_cons (ev_var rfl) ea_nil) (by have := (z1 w hwm).1; omega) (by
        show ¬ (pieO w).isSome = true
        rw [ew]; decide)) (by omega)))) (fun F H c _ => hx F H c.ext c.sub)
  · obtain ⟨x, F, sFH, ha, ⟨hl, hs⟩, hq, hx⟩ := h
    have c := ctx_start (N := ["text", "line"]) sFH ha
    dsimp only at hl hs hq hx
    have c : Ctx ⟨F, H, [], F, []⟩ F H _ [some (S x), none] [] := c
    obtain ⟨row, er⟩ := Option.isSome_iff_exists.mp hs
    rw [er] at hq hx
    by_cases hne : x = Str.empty
    · have e0 : row = [] := by
        unfold rowO at er
        rw [if_pos hne] at er
        exact (Option.some.inj er).symm
      refine sq (st_if (b := true) c (et_is (et_test (ev_eqS (ev_var rfl) (ev_is ev_c (show S (Str.ofString "") = S Str.empty from rfl)))) (decide_eq_true hne)) (fun hb F H c _ => ?_) (fun hb F H c _ => (by cases hb)))
      refine st_ret c (ev_ls2 (Rs' := row.map (Pc K)) (ev_lst (K := K) ea_nil) (by rw [e0]; rfl)) (fun v F' H' c _ r => hq (by rw [e0]; rfl) v F' H' c.ext c.sub r)
    refine sq (st_if (b := false) c (et_is (et_test (ev_eqS (ev_var rfl) (ev_is ev_c (show S (Str.ofString "") = S Str.empty from rfl)))) (decide_eq_false hne)) (fun hb F H c _ => (by cases hb)) (fun hb F H c _ => nxt ?_))
    unfold rowO at er
    rw [if_neg hne] at er
    obtain ⟨z1, z2⟩ := lf_sz x
    obtain ⟨ls, els⟩ : ∃ ls, Txt.split x lfT = ls := ⟨_, rfl⟩
    rw [els] at z1 z2 er
    have em := allO_eq er
    have hall : ∀ u ∈ ls, ∃ p, pieO u = some p := fun u hu => by
      have : pieO u ∈ ls.map pieO := List.mem_map.mpr ⟨u, hu, rfl⟩
      rw [em] at this
      obtain ⟨p, _, e⟩ := List.mem_map.mp this
      exact ⟨p, e.symm⟩
    have erow : ls.map (fun u => Pc K ((pieO u).getD (0, 0, 0, 0))) = row.map (Pc K) := by
      have := congrArg (List.map fun o : Option Pie => Pc K (o.getD (0, 0, 0, 0))) em
      rw [List.map_map, List.map_map] at this
      exact this
    have hrl : row.length ≤ 20000 := by
      have := congrArg List.length em
      rw [List.length_map, List.length_map] at this
      omega
    refine retX (cl_OX row c (ea_cons (ev_is (ev_lcSA (K := K) (xs := ls) (f := fun z => S z) (fun z => [some (S x), some (S z)]) (fun u => Pc K ((pieO u).getD (0, 0, 0, 0))) (src_l (ev_is (ev_split (K := K) (ev_var rfl) ev_c (by decide +kernel) (by omega)) (by show Ls K ((Txt.split x lfT).map fun z => S z) = Ls K (ls.map fun z => S z); rw [els]))) (fun x => gt_name) (by decide) (fun u hu => (ev_callES u (ea_cons (ev_var rfl) ea_nil) (by have := (z1 u hu).1; omega) (by
      obtain ⟨p, e⟩ := hall u hu
      show (pieO u).isSome = true
      rw [e]; rfl))) (by omega)) (by rw [erow])) ea_nil) hrl (fun g b p F H hb c _ => ?_) (fun g d F H c _ => ?_))
    · have hb : b = row := hb
      subst hb
      obtain ⟨F2, s2, c, r⟩ := c.frz (K := K) (j := 0) rfl rdL rfl rfl
      exact hq g _ F2 H c.ext c.sub r
    · exact hx g d F H c.ext c.sub c.own (hd_noneZ c)
def sp__law_cell_at (K : PySem.W.Frag) (C : Str → Addr) : Sp := CtF (fun a : List Int × Int => [Ls K (a.1.map fun n => I n), I a.2]) (fun a => 0 ≤ a.2) (fun a => I (cell a.1 a.2))
theorem ok__law_cell_at (T : G K mg C)  : Dn P w K mg base 1 "_law_cell_at" ["_law_script", "_law_k"] (sp__law_cell_at K C) := by
  refine T.d__law_cell_at.ok sc__law_cell_at (by first | exact CtF.len (fun _ => rfl) | exact CtE.len (fun _ => rfl) | exact CtR.len (fun _ => rfl) | exact CtM.len (fun _ => rfl) | exact CtO.len (fun _ => rfl) | exact CtRO.len (fun _ => rfl) | exact CtX.len (fun _ => rfl) | exact CtMX.len (fun _ => rfl) | exact CtME.len (fun _ => rfl) | exact CtG.len (fun _ => rfl) | exact CtOX.len (fun _ => rfl) | exact CtV.len (fun _ => rfl) | exact spOr_len (by first | exact CtR.len (fun _ => rfl) | exact CtM.len (fun _ => rfl) | exact CtG.len (fun _ => rfl) | exact CtF.len (fun _ => rfl) | exact CtRO.len (fun _ => rfl)) (by first | exact CtRO.len (fun _ => rfl) | exact CtN.len (fun _ => rfl) | exact CtR.len (fun _ => rfl) | exact CtG.len (fun _ => rfl) | exact CtM.len (fun _ => rfl)) | exact sp__law_cell_at_len) (fun f cdv A outer s H vs Q E hr h => ?_)
  obtain ⟨⟨ns, k⟩, F, sFH, ha, hp, hq⟩ := h
  have c := ctx_start (N := ["_law_script", "_law_k"]) sFH ha
  refine ⟨_, (pss_cons (ps_if (pt_cmpR op_lt (pv 1) (pe_callB call_len_seq (by rfl) T.b_len (by decide +kernel) (pa_cons (pv 0) pa_nil)) (nomark _))
      (pss_one (ps_ret (pe_ix (show IxR _ (rIxL K) from ix_list) (pv 0) (pv 1) (fun _ _ => rfl))))
      pss_nil)
    (pss_one (ps_ret pe_int))), ?_⟩
  refine sq (st_if c (et_test (ev_I0 (ev_var rfl) (ev_cb (ea_cons (ev_var rfl) ea_nil) rc_lenL))) (fun hb F H c _ => ?_) (fun hb F H c _ => ?_))
  · have hk : k < (ns.length : Int) := by simpa using hb
    exact st_ret c (ev_ixL (ev_var rfl) (ev_var rfl) (atI_ints hp hk)) (fun v F' H' c _ r => hq v F' H' c.ext c.sub r)
  · have hk : ¬ k < (ns.length : Int) := by simpa using hb
    refine nxt (st_ret c ev_c (fun v F' H' c _ r => hq v F' H' c.ext c.sub ?_))
    show v = V.int (cell ns k)
    unfold cell
    rw [if_neg hk]; exact r
def sp__law_stream (K : PySem.W.Frag) (C : Str → Addr) : Sp := CtF (fun a : Int × Int => [I a.1, I a.2]) (fun a => 0 ≤ a.2 ∧ a.2 ≤ 1000) (fun a => Xs (fun l : List Int => l.length = a.2.toNat ∧ ∀ z ∈ l, 0 ≤ z ∧ z < 2147483647) (fun l => Ls K (l.map fun n => I n)))
theorem ok__law_stream (T : G K mg C)  : Dn P w K mg base 1 "_law_stream" ["_law_cell", "_law_many"] (sp__law_stream K C) := by
  refine T.d__law_stream.ok sc__law_stream (by first | exact CtF.len (fun _ => rfl) | exact CtE.len (fun _ => rfl) | exact CtR.len (fun _ => rfl) | exact CtM.len (fun _ => rfl) | exact CtO.len (fun _ => rfl) | exact CtRO.len (fun _ => rfl) | exact CtX.len (fun _ => rfl) | exact CtMX.len (fun _ => rfl) | exact CtME.len (fun _ => rfl) | exact CtG.len (fun _ => rfl) | exact CtOX.len (fun _ => rfl) | exact CtV.len (fun _ => rfl) | exact spOr_len (by first | exact CtR.len (fun _ => rfl) | exact CtM.len (fun _ => rfl) | exact CtG.len (fun _ => rfl) | exact CtF.len (fun _ => rfl) | exact CtRO.len (fun _ => rfl)) (by first | exact CtRO.len (fun _ => rfl) | exact CtN.len (fun _ => rfl) | exact CtR.len (fun _ => rfl) | exact CtG.len (fun _ => rfl) | exact CtM.len (fun _ => rfl)) | exact sp__law_stream_len) (fun f cdv A outer s H vs Q E hr h => ?_)
  obtain ⟨⟨x, m⟩, F, sFH, ha, ⟨h0, h1⟩, hq⟩ := h
  have c := ctx_start (N := ["_law_cell", "_law_many", "_law_found", "_law_number_here", "_law_k"]) sFH ha
  dsimp only at h0 h1 hq
  refine ⟨_, (pss_cons (ps_set (i := 2) sc__law_stream.nd rfl (by first | exact Or.inl rfl | exact Or.inr rfl) (pe_lst pa_nil))
    (pss_cons (ps_set (i := 3) sc__law_stream.nd rfl (by first | exact Or.inl rfl | exact Or.inr rfl) (pe_op op_add (pe_op op_mod (pv 0) pe_int) pe_int))
    (pss_cons (ps_for PassesOwn.never rfl (pi_range1 (by rfl) T.b_range (pa_cons (pe_op op_add (pv 1) pe_int) pa_nil)) (pg_name (i := 4) sc__law_stream.nd rfl (by first | exact Or.inl rfl | exact Or.inr rfl))
      (pss_cons (ps_set (i := 3) sc__law_stream.nd rfl (by first | exact Or.inl rfl | exact Or.inr rfl) (pe_op op_mod (pe_op op_add (pe_op op_add (pe_op op_mulW (pv 3) (pv 3)) (pe_op op_mulW pe_int (pv 3))) (pv 4)) pe_int))
      (pss_one (ps_expr (pe_bm PySem.F.plainAttrs_list PySem.F.slot_list_append PySem.F.type_list_append mt_append (pv 2) (pa_cons (pv 3) pa_nil))))))
    (pss_one (ps_ret (pe_slice sl_list (pv 2) (po_some pe_int) po_none)))))), ?_⟩
  refine sq (st_nil c (fun p F H σ c _ => ?_))
  refine sq (st_set c (ev_I0 (ev_I (ev_var rfl) ev_c (by walk_at "y")) ev_c) (fun F H σ c _ => ?_))
  refine sq (st_forS (xs := List.range (m + 1).toNat) (f := fun j => I (j : Int)) (fun i : List Int × Int × Option As => [some (I x), some (I m), some (Rf p), some (I i.2.1), i.2.2]) (fun y i => [some (I x), some (I m), some (Rf p), some (I i.2.1), some (I (y : Int))]) (fun i => [(p, oL (i.1.map fun n => I n))]) (fun j i => i.1.length = j ∧ (0 ≤ i.2.1 ∧ i.2.1 < 3000000000) ∧ ∀ z ∈ i.1, 0 ≤ z ∧ z < 2147483647) ([], x % 2147483647 + 48271, none) c (src_r1 (ea_cons (ev_I0 (ev_var rfl) ev_c) ea_nil) (by exact by omega) (by exact by omega)) ⟨rfl, by dsimp only; omega, fun z hz => absurd hz List.not_mem_nil⟩ (fun x i => gt_name) ?_ ?_)
  · rintro j y ⟨l, z, o⟩ G1 F H σ N hk ⟨hl, hz, hall⟩ c hN
    dsimp only at hl hz hall
    have hj := (List.getElem?_eq_some_iff.mp hk).1
    rw [List.length_range] at hj
    have bz : Bt 32 z := by unfold Bt; omega
    have b4 : Bt 16 48271 := by unfold Bt; decide
    refine sq (st_set c (ev_I (ev_I0 (ev_I0 (ev_I (ev_var rfl) (ev_var rfl) (by exact bz.mulW bz)) (ev_I ev_c (ev_var rfl) (by exact b4.mulW bz))) (ev_var rfl)) ev_c (by walk_at "y")) (fun F H σ c _ => ?_))
    have e0 := Int.emod_nonneg (z * z + 48271 * z + (y : Int)) (b := 2147483647) (by decide)
    have e1 := Int.emod_lt_of_pos (z * z + 48271 * z + (y : Int)) (b := 2147483647) (by decide)
    obtain ⟨w, hw⟩ : ∃ w, (z * z + 48271 * z + (y : Int)) % 2147483647 = w := ⟨_, rfl⟩
    rw [hw] at e0 e1
    simp only [hw] at c
    refine st_app (j := 0) c (ev_var rfl) rfl (ev_var rfl) (by rw [List.length_map]; omega) (fun F H c _ => ?_)
    refine hN (l ++ [w], w, some (I (y : Int))) F H σ ⟨by dsimp only; rw [List.length_append, hl]; rfl, by dsimp only; omega, fun u hu => ?_⟩ ?_
    · rcases List.mem_append.mp hu with hu | hu
      · exact hall u hu
      · rw [List.mem_singleton.mp hu]; exact ⟨e0, e1⟩
    · dsimp only
      rw [List.map_append]
      exact c
  · rintro ⟨l, z, o⟩ F H σ ⟨hl, _, hall⟩ c
    dsimp only at hl hall
    rw [List.length_range] at hl
    refine st_ret c (ev_ls2 (ev_slLk (lko (j := 0) (ev_var rfl) rfl rdL) (eo_some ev_c) eo_none) (by walk_at "ls")) (fun v F' H' c _ r => hq v F' H' c.ext c.sub ?_)
    exact ⟨l.drop 1, ⟨by rw [List.length_drop, hl]; omega, fun z hz => hall z (List.mem_of_mem_drop hz)⟩, r⟩
def sp__law_row (K : PySem.W.Frag) (C : Str → Addr) : Sp := CtF (fun a : List Int => [Ls K (a.map fun n => I n)]) (fun _ => True) (fun _ => Xs (fun row : List Pie => row.length ≤ 12 ∧ ∀ p ∈ row, GoodI p) (fun row => Ls K (row.map (Pc K))))
theorem ok__law_row (T : G K mg C) (D__law_stream : Dn P w K mg base 1 "_law_stream" ["_law_cell", "_law_many"] (sp__law_stream K C)) : Dn P w K mg base 2 "_law_row" ["_law_script"] (sp__law_row K C) := by
  refine T.d__law_row.ok sc__law_row (by first | exact CtF.len (fun _ => rfl) | exact CtE.len (fun _ => rfl) | exact CtR.len (fun _ => rfl) | exact CtM.len (fun _ => rfl) | exact CtO.len (fun _ => rfl) | exact CtRO.len (fun _ => rfl) | exact CtX.len (fun _ => rfl) | exact CtMX.len (fun _ => rfl) | exact CtME.len (fun _ => rfl) | exact CtG.len (fun _ => rfl) | exact CtOX.len (fun _ => rfl) | exact CtV.len (fun _ => rfl) | exact spOr_len (by first | exact CtR.len (fun _ => rfl) | exact CtM.len (fun _ => rfl) | exact CtG.len (fun _ => rfl) | exact CtF.len (fun _ => rfl) | exact CtRO.len (fun _ => rfl)) (by first | exact CtRO.len (fun _ => rfl) | exact CtN.len (fun _ => rfl) | exact CtR.len (fun _ => rfl) | exact CtG.len (fun _ => rfl) | exact CtM.len (fun _ => rfl)) | exact sp__law_row_len) (fun f cdv A outer s H vs Q E hr h => ?_)
  obtain ⟨ns, F, sFH, ha, hp, hq⟩ := h
  have c := ctx_start (N := ["_law_script", "_law_row_here", "_law_at", "_law_cell", "_law_xs", "_law_gap", "_law_length"]) sFH ha
  have c : Ctx ⟨F, H, [], F, []⟩ F H _ [some (Ls K (ns.map fun n => I n)), none, none, none, none, none, none] [] := c
  refine ⟨_, (pss_cons (ps_set (i := 1) sc__law_row.nd rfl (by first | exact Or.inl rfl | exact Or.inr rfl) (pe_lst pa_nil))
    (pss_cons (ps_set (i := 2) sc__law_row.nd rfl (by first | exact Or.inl rfl | exact Or.inr rfl) pe_int)
    (pss_cons (ps_for PassesOwn.never rfl (pi_list (pe_slice sl_list (pv 0) (po_some pe_int) (po_some pe_int))) (pg_name (i := 3) sc__law_row.nd rfl (by first | exact Or.inl rfl | exact Or.inr rfl))
      (pss_cons (ps_set (i := 4) sc__law_row.nd rfl (by first | exact Or.inl rfl | exact Or.inr rfl) (pe_d D__law_stream (hr.mono (by decide)) (by rfl) (pa_cons (pv 3) (pa_cons pe_int pa_nil))))
      (pss_cons (ps_set (i := 5) sc__law_row.nd rfl (by first | exact Or.inl rfl | exact Or.inr rfl) (pe_ix (show IxR _ (rIxL K) from ix_list) (pe_lst (pa_cons pe_int (pa_cons (pe_op op_mod (pe_ix (show IxR _ (rIxL K) from ix_list) (pv 4) pe_int (fun _ _ => rfl)) pe_int) (pa_cons (pe_op op_mod (pe_ix (show IxR _ (rIxL K) from ix_list) (pv 4) pe_int (fun _ _ => rfl)) (pe_op op_pow pe_int pe_int)) (pa_cons (pe_op op_mod (pe_op op_mulW (pe_ix (show IxR _ (rIxL K) from ix_list) (pv 4) pe_int (fun _ _ => rfl)) pe_int) (pe_op op_fdivW (pe_op op_pow pe_int pe_int) pe_int)) pa_nil))))) (pe_op op_mod (pe_ix (show IxR _ (rIxL K) from ix_list) (pv 4) pe_int (fun _ _ => rfl)) pe_int) (fun _ _ => rfl)))
      (pss_cons (ps_set (i := 2) sc__law_row.nd rfl (by first | exact Or.inl rfl | exact Or.inr rfl) (pe_op op_add (pv 2) (pv 5)))
      (pss_cons (ps_set (i := 6) sc__law_row.nd rfl (by first | exact Or.inl rfl | exact Or.inr rfl) (pe_op op_add pe_int (pe_op op_mod (pe_ix (show IxR _ (rIxL K) from ix_list) (pv 4) pe_int (fun _ _ => rfl)) (pe_ix (show IxR _ (rIxL K) from ix_list) (pe_lst (pa_cons pe_int (pa_cons (pe_op op_pow pe_int pe_int) pa_nil))) (pe_op op_mod (pe_ix (show IxR _ (rIxL K) from ix_list) (pv 4) pe_int (fun _ _ => rfl)) pe_int) (fun _ _ => rfl)))))
      (pss_one (ps_expr (pe_bm PySem.F.plainAttrs_list PySem.F.slot_list_append PySem.F.type_list_append mt_append (pv 1) (pa_cons (pe_tup (pa_cons (pv 2) (pa_cons (pe_op op_mod (pe_ix (show IxR _ (rIxL K) from ix_list) (pv 4) pe_int (fun _ _ => rfl)) pe_int) (pa_cons (pv 6) (pa_cons (pe_op op_add pe_int (pe_op op_mod (pe_ix (show IxR _ (rIxL K) from ix_list) (pv 4) pe_int (fun _ _ => rfl)) (pe_ix (show IxR _ (rIxL K) from ix_list) (pe_lst (pa_cons pe_int (pa_cons (pe_op op_pow pe_int pe_int) pa_nil))) (pe_op op_mod (pe_op op_fdivW (pe_ix (show IxR _ (rIxL K) from ix_list) (pv 4) pe_int (fun _ _ => rfl)) pe_int) pe_int) (fun _ _ => rfl)))) pa_nil))))) pa_nil)))))))))
    (pss_one (ps_ret (pv 1)))))), ?_⟩
  refine sq (st_nil c (fun p F H σ c _ => ?_))
  refine sq (st_set c ev_c (fun F H σ c _ => ?_))
  have c : Ctx _ F H σ [some (Ls K (ns.map fun n => I n)), some (Rf p), some (I 0), none, none, none, none] [(p, oL (([] : List Pie).map (Pc K)))] := c
  refine sq (st_forS (xs := (ns.drop 2).take (14 - 2)) (f := fun n => I n) (fun i : Int × List Pie × Option As × Option As × Option As × Option As => [some (Ls K (ns.map fun n => I n)), some (Rf p), some (I i.1), i.2.2.1, i.2.2.2.1, i.2.2.2.2.1, i.2.2.2.2.2]) (fun y i => [some (Ls K (ns.map fun n => I n)), some (Rf p), some (I i.1), some (I y), i.2.2.2.1, i.2.2.2.2.1, i.2.2.2.2.2]) (fun i => [(p, oL (i.2.1.map (Pc K)))]) (fun k i => RG k i.1 i.2.1) (0, [], none, none, none, none) c (src_l (ev_ls2 (Rs' := ((ns.drop 2).take (14 - 2)).map fun n => I n) (ev_slLk (lk (ev_var rfl)) (eo_some ev_c) (eo_some ev_c)) (cutA_from (j := 2) (k := 14)))) ⟨rfl, fun _ h => absurd h List.not_mem_nil, Int.le_refl _, Int.le_refl _⟩ (fun x i => gt_name) ?_ ?_)
  · rintro k y ⟨t, row, o1, o2, o3, o4⟩ G1 F H σ N hk ⟨g1, g2, g3, g4⟩ c hN
    dsimp only at g1 g2 g3 g4 c
    have hkl := (List.getElem?_eq_some_iff.mp hk).1
    rw [List.length_take] at hkl
    have hl : (row.map (Pc K)).length ≤ 100000 := by rw [List.length_map, g1]; omega
    refine sq (st_set c (ev_call (_, _) (ea_cons (ev_var rfl) (ea_cons ev_c ea_nil)) (by exact show (0 : Int) ≤ 6 ∧ (6 : Int) ≤ 1000 by decide)) (fun F H σ c _ => ?_))
    obtain ⟨l, ⟨hll, hz⟩, c⟩ := c.opn 4 rfl
    obtain ⟨x0, x1, x2, x3, x4, x5, el⟩ : ∃ x0 x1 x2 x3 x4 x5, l = [x0, x1, x2, x3, x4, x5] := by
      have hll : l.length = 6 := hll
      match l, hll with
      | [a, b, d, e, f, g], _ => exact ⟨a, b, d, e, f, g, rfl⟩
    subst el
    have hx0 := hz x0 (by simp)
    have b0 : Bt 32 x0 := by unfold Bt; omega
    have b4 : Bt 16 48271 := by unfold Bt; decide
    refine sq (st_set c (ev_ixLk (lk (ev_lst (K := K) (ea_cons ev_c (ea_cons (ev_I (ev_ixLk (lk (ev_var rfl)) ev_c (by exact rfl)) ev_c (by walk_at "y")) (ea_cons (ev_I (ev_ixLk (lk (ev_var rfl)) ev_c (by exact rfl)) (ev_k (n := 1000000000) (ev_I ev_c ev_c (by walk_at "y")) (by decide +kernel)) (by walk_at "y")) (ea_cons (ev_I (ev_I (ev_ixLk (lk (ev_var rfl)) ev_c (by exact rfl)) ev_c (by exact b0.mulW b4)) (ev_k (n := 76923076923) (ev_I (ev_I ev_c ev_c (by walk_at "y")) ev_c (by walk_at "y")) (by decide +kernel)) (by walk_at "y")) ea_nil)))) (show 4 ≤ 1000 by decide))) (ev_I (ev_ixLk (lk (ev_var rfl)) ev_c (by exact rfl)) ev_c (by walk_at "y")) (by exact atI_4q _ _ _ _ _)) (fun F H σ c _ => ?_))
    obtain ⟨gp, hgp⟩ : ∃ g : Int, (if x1 % 4 = 0 then (0 : Int) else if x1 % 4 = 1 then x0 % 9 else if x1 % 4 = 2 then x0 % 1000000000 else x0 * 48271 % 76923076923) = g := ⟨_, rfl⟩
    have gp1 : 0 ≤ gp ∧ gp < 76923076923 := by
      rw [← hgp]
      split
      · decide
      · split
        · omega
        · split <;> omega
    simp only [hgp] at c
    refine sq (st_set c (ev_I0 (ev_var rfl) (ev_var rfl)) (fun F H σ c _ => ?_))
    obtain ⟨le, hle⟩ : ∃ m : Int, (if x3 % 2 = 0 then (9 : Int) else 1000000) = m := ⟨_, rfl⟩
    have le1 : 0 < le := by rw [← hle]; split <;> decide
    have le2 : le ≤ 1000000 := by rw [← hle]; split <;> decide
    refine sq (st_set c (ev_I0 ev_c (ev_I (ev_ixLk (lk (ev_var rfl)) ev_c (by exact rfl)) (ev_ixLk (lk (ev_lst (K := K) (ea_cons ev_c (ea_cons (ev_k (n := 1000000) (ev_I ev_c ev_c (by walk_at "y")) (by decide +kernel)) ea_nil)) (show 2 ≤ 1000 by decide))) (ev_I (ev_ixLk (lk (ev_var rfl)) ev_c (by exact rfl)) ev_c (by walk_at "y")) (by exact atI_two _ _ _)) (by exact by rw [hle]; exact le1))) (fun F H σ c _ => ?_))
    simp only [hle] at c
    obtain ⟨sh, hsh⟩ : ∃ m : Int, (if x3 / 2 % 2 = 0 then (9 : Int) else 1000000) = m := ⟨_, rfl⟩
    have sh1 : 0 < sh := by rw [← hsh]; split <;> decide
    have sh2 : sh ≤ 1000000 := by rw [← hsh]; split <;> decide
    refine st_app c (ev_var rfl) (j := 0) rfl (ev_pc (K := K) (ea_cons (ev_var rfl) (ea_cons (ev_I (ev_ixLk (lk (ev_var rfl)) ev_c (by exact rfl)) ev_c (by walk_at "y")) (ea_cons (ev_var rfl) (ea_cons (ev_I0 ev_c (ev_I (ev_ixLk (lk (ev_var rfl)) ev_c (by exact rfl)) (ev_ixLk (lk (ev_lst (K := K) (ea_cons ev_c (ea_cons (ev_I ev_c ev_c (by walk_at "y")) ea_nil)) (show 2 ≤ 1000 by decide))) (ev_I (ev_I (ev_ixLk (lk (ev_var rfl)) ev_c (by exact rfl)) ev_c (by walk_at "y")) ev_c (by walk_at "y")) (by exact atI_two _ _ _)) (by exact by show 0 < (if x3 / 2 % 2 = 0 then (9 : Int) else 1000000); rw [hsh]; exact sh1))) ea_nil))))) hl (fun F H c _ => ?_)
    have e3 := Int.emod_nonneg x2 (Int.ne_of_gt le1)
    have e4 := Int.emod_lt_of_pos x2 le1
    have e5 := Int.emod_nonneg x5 (Int.ne_of_gt sh1)
    have e6 := Int.emod_lt_of_pos x5 sh1
    simp only [show (10 : Int) ^ Int.toNat 6 = 1000000 by decide, hsh] at c
    refine hN (t + gp, row ++ [(t + gp, x4 % 12, 1 + x2 % le, 1 + x5 % sh)], some (I y), some (Ls K ([x0, x1, x2, x3, x4, x5].map fun n => I n)), some (I gp), some (I (1 + x2 % le))) F H σ ⟨by dsimp only; rw [List.length_append, g1]; rfl, fun q hq => ?_, by dsimp only; omega, by dsimp only; omega⟩ ?_
    · rcases List.mem_append.mp hq with z | z
      · exact g2 q z
      · rw [List.mem_singleton.mp z]
        exact good4 ⟨by omega, by omega⟩ ⟨by omega, by omega⟩ ⟨by omega, by omega⟩ ⟨by omega, by omega⟩
    · dsimp only
      rw [List.map_append]
      exact c
  · rintro ⟨t, row, o1, o2, o3, o4⟩ F H σ ⟨g1, g2, g3, g4⟩ c
    dsimp only at g1 g2 c
    rw [List.length_take] at g1
    exact st_retL (K := K) (j := 0) c (ev_var rfl) rfl rdL rfl (fun v F' H' c _ r => hq v F' H' c.ext c.sub ⟨row, ⟨by omega, g2⟩, r⟩)
def sp__law_spoilt (K : PySem.W.Frag) (C : Str → Addr) : Sp := CtF (fun a : List Pie × Int => [Ls K (a.1.map (Pc K)), I a.2]) (fun a => a.1.length ≤ 12 ∧ ∀ p ∈ a.1, GoodI p) (fun _ => Xs (fun row : List Pie => row.length ≤ 100 ∧ ∀ p ∈ row, GoodI p) (fun row => Ls K (row.map (Pc K))))
theorem ok__law_spoilt (T : G K mg C)  : Dn P w K mg base 1 "_law_spoilt" ["_law_row_here", "_law_cell"] (sp__law_spoilt K C) := by
  refine T.d__law_spoilt.ok sc__law_spoilt (by first | exact CtF.len (fun _ => rfl) | exact CtE.len (fun _ => rfl) | exact CtR.len (fun _ => rfl) | exact CtM.len (fun _ => rfl) | exact CtO.len (fun _ => rfl) | exact CtRO.len (fun _ => rfl) | exact CtX.len (fun _ => rfl) | exact CtMX.len (fun _ => rfl) | exact CtME.len (fun _ => rfl) | exact CtG.len (fun _ => rfl) | exact CtOX.len (fun _ => rfl) | exact CtV.len (fun _ => rfl) | exact spOr_len (by first | exact CtR.len (fun _ => rfl) | exact CtM.len (fun _ => rfl) | exact CtG.len (fun _ => rfl) | exact CtF.len (fun _ => rfl) | exact CtRO.len (fun _ => rfl)) (by first | exact CtRO.len (fun _ => rfl) | exact CtN.len (fun _ => rfl) | exact CtR.len (fun _ => rfl) | exact CtG.len (fun _ => rfl) | exact CtM.len (fun _ => rfl)) | exact sp__law_spoilt_len) (fun f cdv A outer s H vs Q E hr h => ?_)
  obtain ⟨⟨row, n⟩, F, sFH, ha, ⟨hl, hg⟩, hq⟩ := h
  have c := ctx_start (N := ["_law_row_here", "_law_cell", "_law_some", "_law_at", "_law_piece", "_law_which"]) sFH ha
  dsimp only at hl hg hq
  have c : Ctx ⟨F, H, [], F, []⟩ F H _ [some (Ls K (row.map (Pc K))), some (I n), none, none, none, none] [] := c
  refine ⟨_, (pss_cons (ps_set (i := 2) sc__law_spoilt.nd rfl (by first | exact Or.inl rfl | exact Or.inr rfl) (pe_callTy call_list_of (by rfl) T.b_list (by decide +kernel) (pa_cons (pv 0) pa_nil)))
    (pss_cons (ps_if (pt_cmpR (op_eqD hr.units) (pv 2) (pe_lst pa_nil) (nomark _))
      (pss_one (ps_ret (pv 2)))
      pss_nil)
    (pss_cons (ps_set (i := 3) sc__law_spoilt.nd rfl (by first | exact Or.inl rfl | exact Or.inr rfl) (pe_op op_mod (pe_op op_fdivW (pv 1) pe_int) (pe_callB call_len_seq (by rfl) T.b_len (by decide +kernel) (pa_cons (pv 2) pa_nil))))
    (pss_cons (ps_set (i := 4) sc__law_spoilt.nd rfl (by first | exact Or.inl rfl | exact Or.inr rfl) (pe_callTy call_list_of (by rfl) T.b_list (by decide +kernel) (pa_cons (pe_ix (show IxR _ (rIxL K) from ix_list) (pv 2) (pv 3) (fun _ _ => rfl)) pa_nil)))
    (pss_cons (ps_set (i := 5) sc__law_spoilt.nd rfl (by first | exact Or.inl rfl | exact Or.inr rfl) (pe_op op_mod (pe_op op_fdivW (pv 1) pe_int) pe_int))
    (pss_cons (ps_asg (pe_ix (show IxR _ (rIxL K) from ix_list) (pe_lst (pa_cons (pe_op op_add (pe_op op_pow pe_int pe_int) pe_int) (pa_cons pe_int (pa_cons (pe_op op_add (pe_op op_pow pe_int pe_int) pe_int) (pa_cons (pe_op op_add (pe_op op_pow pe_int pe_int) pe_int) pa_nil))))) (pv 5) (fun _ _ => rfl)) (pg_sub (pv 4) (pv 5) set_list))
    (pss_cut (ps_if (PW.pt (pw_and (pt_cmpR op_eq (pe_op op_mod (pe_op op_fdivW (pv 1) pe_int) pe_int) pe_int (nomark _)) (pw_and1 (pt_cmpR op_gt (pv 5) pe_int (nomark _)))))
      (pss_one (ps_asg pe_int (pg_sub (pv 4) (pv 5) set_list)))
      pss_nil)
    (pss_cut (ps_if (PW.pt (pw_and (pt_cmpR op_eq (pe_op op_mod (pe_op op_fdivW (pv 1) pe_int) pe_int) pe_int (nomark _)) (pw_and1 (pt_cmpR op_eq (pv 5) pe_int (nomark _)))))
      (pss_one (ps_asg (pe_callB (call_max2 rfl) (by rfl) T.b_max (by decide +kernel) (pa_cons (pe_op op_sub (pe_ix (show IxR _ (rIxL K) from ix_list) (pv 4) pe_int (fun _ _ => rfl)) pe_int) (pa_cons pe_int pa_nil))) (pg_sub (pv 4) pe_int set_list)))
      pss_nil)
    (pss_cons (ps_asg (pe_tup (pa_cons (pe_ix (show IxR _ (rIxL K) from ix_list) (pv 4) pe_int (fun _ _ => rfl)) (pa_cons (pe_ix (show IxR _ (rIxL K) from ix_list) (pv 4) pe_int (fun _ _ => rfl)) (pa_cons (pe_ix (show IxR _ (rIxL K) from ix_list) (pv 4) pe_int (fun _ _ => rfl)) (pa_cons (pe_ix (show IxR _ (rIxL K) from ix_list) (pv 4) pe_int (fun _ _ => rfl)) pa_nil))))) (pg_sub (pv 2) (pv 3) set_list))
    (pss_cut (ps_if (pt_cmpR op_eq (pe_op op_mod (pe_op op_fdivW (pv 1) pe_int) pe_int) pe_int (nomark _))
      (pss_one (ps_asg (pe_tup (pa_cons (pe_ix (show IxR _ (rIxL K) from ix_list) (pv 2) (pe_un un_neg pe_int) (fun _ _ => rfl)) (pa_cons (pe_ix (show IxR _ (rIxL K) from ix_list) (pv 2) pe_int (fun _ _ => rfl)) pa_nil))) (show PG _ _ (gTup K 2 _) from pg_tup rfl (pgs_cons (pg_sub (pv 2) pe_int set_list) (pgs_cons (pg_sub (pv 2) (pe_un un_neg pe_int) set_list) pgs_nil)))))
      pss_nil)
    (pss_cut (ps_if (pt_cmpR op_eq (pe_op op_mod (pe_op op_fdivW (pv 1) pe_int) pe_int) pe_int (nomark _))
      (pss_one (ps_set (i := 2) sc__law_spoilt.nd rfl (by first | exact Or.inl rfl | exact Or.inr rfl) (pe_op op_rep (pe_lst (pa_cons (pe_ix (show IxR _ (rIxL K) from ix_list) (pv 2) pe_int (fun _ _ => rfl)) pa_nil)) (pe_op op_add pe_int (pe_op op_mod (pe_op op_fdivW (pv 1) pe_int) pe_int)))))
      pss_nil)
    (pss_one (ps_ret (pv 2)))))))))))))), ?_⟩
  refine sq (st_setO c (eo_listLk (lk (ev_var rfl))) (fun ps F H σ c _ => ?_))
  have c : Ctx _ F H σ [some (Ls K (row.map (Pc K))), some (I n), some (Rf ps), none, none, none] [(ps, oL (row.map (Pc K)))] := c
  by_cases hr : row = []
  · refine sq (st_if (b := true) c (et_is (et_test (ev_cmpNil (xs := row) false (kd_pc (K := K)) (lko (j := 0) (ev_var rfl) rfl rdL))) (by rw [hr]; rfl)) (fun hb F H c _ => ?_) (fun hb F H c _ => (by cases hb)))
    exact st_retL (K := K) (j := 0) c (ev_var rfl) rfl rdL rfl (fun v F' H' c _ r => hq v F' H' c.ext c.sub ⟨row, ⟨by omega, hg⟩, r⟩)
  have hlp : 0 < row.length := List.length_pos_iff.mpr hr
  refine sq (st_if (b := false) c (et_is (et_test (ev_cmpNil (xs := row) false (kd_pc (K := K)) (lko (j := 0) (ev_var rfl) rfl rdL))) (by
    cases row with
    | nil => exact absurd rfl hr
    | cons a l => rfl)) (fun hb F H c _ => (by cases hb)) (fun hb F H c _ => nxt ?_))
  obtain ⟨at0, hat⟩ : ∃ x, n / 8 % (row.length : Int) = x := ⟨_, rfl⟩
  have a0 : 0 ≤ at0 := by rw [← hat]; exact Int.emod_nonneg _ (by omega)
  have a1 : at0 < (row.length : Int) := by rw [← hat]; exact Int.emod_lt_of_pos _ (by omega)
  refine sq (st_set (R := I at0) c (ev_is (ev_I (ev_I (ev_var rfl) ev_c (by walk_at "y")) (ev_lenLk (K := K) (lko (j := 0) (ev_var rfl) rfl rdL)) (show 0 < (((row.map (Pc K)).length : Nat) : Int) by rw [List.length_map]; omega)) (by rw [List.length_map, hat])) (fun F H σ c _ => ?_))
  obtain ⟨k, rfl⟩ := Int.eq_ofNat_of_zero_le a0
  have hk : k < row.length := by omega
  have c : Ctx _ F H σ [some (Ls K (row.map (Pc K))), some (I n), some (Rf ps), some (I (k : Int)), none, none] [(ps, oL (row.map (Pc K)))] := c
  obtain ⟨p0, hp0⟩ : ∃ p0, row[k]? = some p0 := ⟨_, List.getElem?_eq_getElem hk⟩
  have hg0 := hg p0 (List.mem_of_getElem? hp0)
  have hatp : atI (row.map (Pc K)) (k : Int) = some (Pc K p0) := atI_nat (by rw [List.getElem?_map, hp0]; rfl)
  refine sq (st_setO c (eo_listTp (Rs := (pieL p0).map fun n => I n) (ev_is (ev_ixLk (K := K) (lko (j := 0) (ev_var rfl) rfl rdL) (ev_var rfl) hatp) rfl)) (fun pq F H σ c _ => ?_))
  obtain ⟨wv, hwv⟩ : ∃ x, n / 100 % 4 = x := ⟨_, rfl⟩
  have w0 : 0 ≤ wv := by omega
  have w1 : wv < 4 := by omega
  refine sq (st_set (R := I wv) c (ev_is (ev_I (ev_I (ev_var rfl) ev_c (by walk_at "y")) ev_c (by walk_at "y")) (congrArg (fun n : Int => I n) hwv)) (fun F H σ c _ => ?_))
  obtain ⟨wk, rfl⟩ := Int.eq_ofNat_of_zero_le w0
  have hwk : wk < 4 := by omega
  have c : Ctx _ F H σ [some (Ls K (row.map (Pc K))), some (I n), some (Rf ps), some (I (k : Int)), some (Rf pq), some (I (wk : Int))] [(pq, oL ((pieL p0).map fun n => I n)), (ps, oL (row.map (Pc K)))] := c
  obtain ⟨v0, hv, hv0, hv1⟩ : ∃ v : Int, atI [I 1000000000001, I 12, I 1000001, I 1000001] (wk : Int) = some (I v) ∧ 0 ≤ v ∧ v ≤ 2000000000000 := by
    match wk, hwk with
    | 0, _ => exact ⟨1000000000001, rfl, by decide, by decide⟩
    | 1, _ => exact ⟨12, rfl, by decide, by decide⟩
    | 2, _ => exact ⟨1000001, rfl, by decide, by decide⟩
    | 3, _ => exact ⟨1000001, rfl, by decide, by decide⟩
  refine sq (st_lset (j := 0) (R := I v0) (k := wk) c (ev_ixLk (lk (ev_lst (K := K) (ea_cons (ev_k (n := 1000000000001) (ev_I0 (ev_I ev_c ev_c (by walk_at "y")) ev_c) (by decide +kernel)) (ea_cons ev_c (ea_cons (ev_k (n := 1000001) (ev_I0 (ev_I ev_c ev_c (by walk_at "y")) ev_c) (by decide +kernel)) (ea_cons (ev_k (n := 1000001) (ev_I0 (ev_I ev_c ev_c (by walk_at "y")) ev_c) (by decide +kernel)) ea_nil)))) (show 4 ≤ 1000 by decide))) (ev_var rfl) (by exact hv)) (ev_var rfl) rfl (ev_var rfl) (ixN_natZ hwk) (fun F H c => ?_) (c.wr (j := 0) rfl rfl))
  have q0 : Q4 ((pieL p0).set wk v0) := Q4.set ⟨rfl, hg0⟩ wk hv0 hv1
  obtain ⟨qs, eqs⟩ : ∃ qs, (pieL p0).set wk v0 = qs := ⟨_, rfl⟩
  rw [eqs] at q0
  have c : Ctx _ F H σ [some (Ls K (row.map (Pc K))), some (I n), some (Rf ps), some (I (k : Int)), some (Rf pq), some (I (wk : Int))] [(pq, oL (((pieL p0).map fun n => I n).set wk (I v0))), (ps, oL (row.map (Pc K)))] := c
  have em : ((pieL p0).map fun n => I n).set wk (I v0) = qs.map fun n => I n := by rw [← eqs, List.map_set]
  rw [em] at c
  refine cut c (fun qs : List Int => [some (Ls K (row.map (Pc K))), some (I n), some (Rf ps), some (I (k : Int)), some (Rf pq), some (I (wk : Int))]) (fun qs => [(pq, oL (qs.map fun n => I n)), (ps, oL (row.map (Pc K)))]) (fun qs => Q4 qs) (fun N hN => ?_) ?_
  · refine st_if c (et_and (et_test (ev_eqI (ev_I (ev_I (ev_var rfl) ev_c (by walk_at "y")) ev_c (by walk_at "y")) ev_c)) (fun hb => (et_test (ev_I0 (ev_var rfl) ev_c)))) (fun hb F H c _ => ?_) (fun hb F H c _ => ?_)
    · refine st_lset (j := 0) (R := I 0) (k := wk) c ev_c (ev_var rfl) rfl (ev_var rfl) (by rw [List.length_map, q0.1]; exact ixN_natZ hwk) (fun F H c => ?_) (c.wr (j := 0) rfl rfl)
      refine hN (qs.set wk 0) F H σ (q0.set wk (Int.le_refl _) (by decide)) ?_
      rw [List.map_set]
      exact c
    · exact nxt (hN qs F H σ q0 c)
  rintro qs F H σ q0 c
  refine cut c (fun qs : List Int => [some (Ls K (row.map (Pc K))), some (I n), some (Rf ps), some (I (k : Int)), some (Rf pq), some (I (wk : Int))]) (fun qs => [(pq, oL (qs.map fun n => I n)), (ps, oL (row.map (Pc K)))]) (fun qs => Q4 qs) (fun N hN => ?_) ?_
  · refine st_if c (et_and (et_test (ev_eqI (ev_I (ev_I (ev_var rfl) ev_c (by walk_at "y")) ev_c (by walk_at "y")) ev_c)) (fun hb => (et_test (ev_eqI (ev_var rfl) ev_c)))) (fun hb F H c _ => ?_) (fun hb F H c _ => ?_)
    · obtain ⟨b0, b1, b2, b3, eb⟩ : ∃ a b d e, qs = [a, b, d, e] := by
        match qs, q0.1 with
        | [a, b, d, e], _ => exact ⟨a, b, d, e, rfl⟩
      subst eb
      have hb0 := q0.2 b0 (by simp)
      refine st_lset (j := 0) (R := I (max (b0 - 1) 0)) (k := 0) c (ev_cb (ea_cons (ev_I0 (ev_ixLk (K := K) (R := I b0) (lko (j := 0) (ev_var rfl) rfl rdL) ev_c rfl) ev_c) (ea_cons ev_c ea_nil)) rc_max2) (ev_var rfl) rfl ev_c (ixN_natZ (j := 0) (show 0 < 4 by decide)) (fun F H c => ?_) (c.wr (j := 0) rfl rfl)
      exact hN ([b0, b1, b2, b3].set 0 (max (b0 - 1) 0)) F H σ (q0.set 0 (by omega) (by omega)) c
    · exact nxt (hN qs F H σ q0 c)
  rintro qs F H σ q0 c
  obtain ⟨b0, b1, b2, b3, eb⟩ : ∃ a b d e, qs = [a, b, d, e] := by
    match qs, q0.1 with
    | [a, b, d, e], _ => exact ⟨a, b, d, e, rfl⟩
  subst eb
  have gq : GoodI (b0, b1, b2, b3) := q0.2
  have c : Ctx _ F H σ [some (Ls K (row.map (Pc K))), some (I n), some (Rf ps), some (I (k : Int)), some (Rf pq), some (I (wk : Int))] [(pq, oL ([b0, b1, b2, b3].map fun n => I n)), (ps, oL (row.map (Pc K)))] := c
  refine sq (st_lset (j := 1) (R := Pc K (b0, b1, b2, b3)) (k := k) c (ev_pc (K := K) (ea_cons (ev_ixLk (K := K) (R := I b0) (lko (j := 0) (ev_var rfl) rfl rdL) ev_c rfl) (ea_cons (ev_ixLk (K := K) (R := I b1) (lko (j := 0) (ev_var rfl) rfl rdL) ev_c rfl) (ea_cons (ev_ixLk (K := K) (R := I b2) (lko (j := 0) (ev_var rfl) rfl rdL) ev_c rfl) (ea_cons (ev_ixLk (K := K) (R := I b3) (lko (j := 0) (ev_var rfl) rfl rdL) ev_c rfl) ea_nil))))) (ev_var rfl) rfl (ev_var rfl) (by rw [List.length_map]; exact ixN_natZ hk) (fun F H c => ?_) (c.wr (j := 1) rfl rfl))
  have g1 : GR row.length (row.set k (b0, b1, b2, b3)) := GR.set ⟨rfl, hg⟩ k gq
  obtain ⟨r1, er1⟩ : ∃ r, row.set k (b0, b1, b2, b3) = r := ⟨_, rfl⟩
  rw [er1] at g1
  have c : Ctx _ F H σ [some (Ls K (row.map (Pc K))), some (I n), some (Rf ps), some (I (k : Int)), some (Rf pq), some (I (wk : Int))] [(pq, oL ([b0, b1, b2, b3].map fun n => I n)), (ps, oL ((row.map (Pc K)).set k (Pc K (b0, b1, b2, b3))))] := c
  have em1 : (row.map (Pc K)).set k (Pc K (b0, b1, b2, b3)) = r1.map (Pc K) := by rw [← er1, List.map_set]
  rw [em1] at c
  refine cut c (fun r1 : List Pie => [some (Ls K (row.map (Pc K))), some (I n), some (Rf ps), some (I (k : Int)), some (Rf pq), some (I (wk : Int))]) (fun r1 => [(pq, oL ([b0, b1, b2, b3].map fun n => I n)), (ps, oL (r1.map (Pc K)))]) (fun r1 => GR row.length r1) (fun N hN => ?_) ?_
  · refine st_if c (et_test (ev_eqI (ev_I (ev_I (ev_var rfl) ev_c (by walk_at "y")) ev_c (by walk_at "y")) ev_c)) (fun hb F H c _ => ?_) (fun hb F H c _ => ?_)
    · have hl1 : 0 < (r1.map (Pc K)).length := by rw [List.length_map, g1.1]; exact hlp
      have hl2 : 0 < r1.length := by rw [g1.1]; exact hlp
      obtain ⟨pf, hpf⟩ : ∃ p, r1[0]? = some p := ⟨_, List.getElem?_eq_getElem hl2⟩
      obtain ⟨pe, hpe⟩ : ∃ p, r1[r1.length - 1]? = some p := ⟨_, List.getElem?_eq_getElem (by omega)⟩
      refine st_swapL (K := K) (j := 1) (R1 := Pc K pe) (R2 := Pc K pf) c (ea_cons (ev_ixLk (K := K) (lko (j := 1) (ev_var rfl) rfl rdL) (ev_neg ev_c) (atI_lastZ (by rw [List.length_map, List.getElem?_map, hpe]; rfl) hl1)) (ea_cons (ev_ixLk (K := K) (lko (j := 1) (ev_var rfl) rfl rdL) ev_c (atI_nat (j := 0) (by rw [List.getElem?_map, hpf]; rfl))) ea_nil)) rfl (ev_var rfl) ev_c (ixN_natZ (j := 0) hl1) (fun _ => ev_var rfl) (fun _ => ev_neg ev_c) (ixN_last hl1) (c.wr (j := 1) rfl rfl) (fun F H c => ?_)
      refine hN ((r1.set 0 pe).set ((r1.map (Pc K)).length - 1) pf) F H σ ((g1.set 0 (g1.2 pe (List.mem_of_getElem? hpe))).set _ (g1.2 pf (List.mem_of_getElem? hpf))) ?_
      rw [List.map_set, List.map_set]
      exact c
    · exact nxt (hN r1 F H σ g1 c)
  rintro r1 F H σ g1 c
  refine cut c (fun o : Option (List Pie) => [some (Ls K (row.map (Pc K))), some (I n), (match o with | none => some (Rf ps) | some r => some (Ls K (r.map (Pc K)))), some (I (k : Int)), some (Rf pq), some (I (wk : Int))]) (fun _ => [(pq, oL ([b0, b1, b2, b3].map fun n => I n)), (ps, oL (r1.map (Pc K)))]) (fun o => ∀ r, o = some r → r.length ≤ 100 ∧ ∀ p ∈ r, GoodI p) (fun N hN => ?_) ?_
  · refine st_if c (et_test (ev_eqI (ev_I (ev_I (ev_var rfl) ev_c (by walk_at "y")) ev_c (by walk_at "y")) ev_c)) (fun hb F H c _ => ?_) (fun hb F H c _ => ?_)
    · have hl2 : 0 < r1.length := by rw [g1.1]; exact hlp
      obtain ⟨pf, hpf⟩ : ∃ p, r1[0]? = some p := ⟨_, List.getElem?_eq_getElem hl2⟩
      refine st_set (R := Ls K ((List.replicate (58 + n / 3200 % 7).toNat pf).map (Pc K))) c (ev_sub (ev_rep1 (ev_lsth (ea_cons (ev_ixLk (K := K) (R := Pc K pf) (lko (j := 1) (ev_var rfl) rfl rdL) ev_c (atI_nat (j := 0) (by rw [List.getElem?_map, hpf]; rfl))) ea_nil) (show 1 ≤ 1000 by decide)) (ev_I0 ev_c (ev_I (ev_I (ev_var rfl) ev_c (by walk_at "y")) ev_c (by walk_at "y"))) (by omega) (by omega)) (fun F v r => by
        rw [List.map_replicate]
        exact lh_ls r)) (fun F H σ c _ => ?_)
      refine hN (some (List.replicate (58 + n / 3200 % 7).toNat pf)) F H σ (fun r hr => ?_) c
      cases hr
      refine ⟨by rw [List.length_replicate]; omega, fun p hp => ?_⟩
      rw [(List.mem_replicate.mp hp).2]
      exact g1.2 pf (List.mem_of_getElem? hpf)
    · exact nxt (hN none F H σ (fun r hr => by cases hr) c)
  rintro o F H σ ho c
  cases o with
  | none => exact st_retL (K := K) (j := 1) c (ev_var rfl) rfl rdL rfl (fun v F' H' c _ r => hq v F' H' c.ext c.sub ⟨r1, ⟨by rw [g1.1]; omega, g1.2⟩, r⟩)
  | some r => exact st_ret c (ev_var rfl) (fun v F' H' c _ rr => hq v F' H' c.ext c.sub ⟨r, ho r rfl, rr⟩)
def sp__law_text (K : PySem.W.Frag) (C : Str → Addr) : Sp := CtF (fun row : List Pie => [Ls K (row.map (Pc K))]) (fun row => row.length ≤ 100 ∧ ∀ p ∈ row, GoodI p) (fun row => S (textW (row.map pieL)))
theorem ok__law_text (T : G K mg C)  : Dn P w K mg base 1 "_law_text" ["_law_row_here"] (sp__law_text K C) := by
  refine T.d__law_text.ok sc__law_text (by first | exact CtF.len (fun _ => rfl) | exact CtE.len (fun _ => rfl) | exact CtR.len (fun _ => rfl) | exact CtM.len (fun _ => rfl) | exact CtO.len (fun _ => rfl) | exact CtRO.len (fun _ => rfl) | exact CtX.len (fun _ => rfl) | exact CtMX.len (fun _ => rfl) | exact CtME.len (fun _ => rfl) | exact CtG.len (fun _ => rfl) | exact CtOX.len (fun _ => rfl) | exact CtV.len (fun _ => rfl) | exact spOr_len (by first | exact CtR.len (fun _ => rfl) | exact CtM.len (fun _ => rfl) | exact CtG.len (fun _ => rfl) | exact CtF.len (fun _ => rfl) | exact CtRO.len (fun _ => rfl)) (by first | exact CtRO.len (fun _ => rfl) | exact CtN.len (fun _ => rfl) | exact CtR.len (fun _ => rfl) | exact CtG.len (fun _ => rfl) | exact CtM.len (fun _ => rfl)) | exact sp__law_text_len) (fun f cdv A outer s H vs Q E hr h => ?_)
  obtain ⟨row, F, sFH, ha, ⟨hl, hg⟩, hq⟩ := h
  have c := ctx_start (N := ["_law_row_here", "_law_lines", "_law_piece", "_law_number_here"]) sFH ha
  dsimp only at hl hg hq
  have c : Ctx ⟨F, H, [], F, []⟩ F H _ [some (Ls K (row.map (Pc K))), none, none, none] [] := c
  refine ⟨_, (pss_cons (ps_set (i := 1) sc__law_text.nd rfl (by first | exact Or.inl rfl | exact Or.inr rfl) (pe_lst pa_nil))
    (pss_cons (ps_for PassesOwn.never rfl (pi_list (pv 0)) (pg_name (i := 2) sc__law_text.nd rfl (by first | exact Or.inl rfl | exact Or.inr rfl))
      (pss_one (ps_expr (pe_bm PySem.F.plainAttrs_list PySem.F.slot_list_append PySem.F.type_list_append mt_append (pv 1) (pa_cons (pe_bmK (K := K) rfl (r := (rJoin K)) PySem.F.plainAttrs_str PySem.F.slot_str_join PySem.F.type_str_join (by exact mt_join) pe_str (pa_cons (by exact (pe_lc (own := [("_law_number_here", 3)]) rfl sc__law_text.nd (pi_tup (pv 2)) (blkOk_by (N := ["_law_row_here", "_law_lines", "_law_piece", "_law_number_here"]) (sc := defScope s__law_text) (by decide +kernel)) (fun _ _ _ _ _ => (pg_name (i := 3) sc__law_text.nd rfl (by first | exact Or.inl rfl | exact Or.inr rfl))) (fun _ _ _ _ _ => pts_nil) (fun _ _ _ _ _ => (pe_callTy (show CallR _ (Value.type "str") rStrI from call_str_int) (by rfl) T.b_str (by decide +kernel) (pa_cons (pv 3) pa_nil))))) pa_nil)) pa_nil)))))
    (pss_one (ps_ret (pe_bmK (K := K) rfl (r := (rJoin K)) PySem.F.plainAttrs_str PySem.F.slot_str_join PySem.F.type_str_join (by exact mt_join) pe_str (pa_cons (pv 1) pa_nil)))))), ?_⟩
  refine sq (st_nil c (fun p F H σ c _ => ?_))
  have c : Ctx _ F H σ [some (Ls K (row.map (Pc K))), some (Rf p), none, none] [(p, oL (([] : List Str).map fun y => S y))] := c
  refine sq (st_forS (xs := row) (f := Pc K) (fun i : List Str × Option As => [some (Ls K (row.map (Pc K))), some (Rf p), i.2, none]) (fun y i => [some (Ls K (row.map (Pc K))), some (Rf p), some (Pc K y), none]) (fun i => [(p, oL (i.1.map fun y => S y))]) (fun j i => i.1 = (row.take j).map fun q => lineW (pieL q)) ([], none) c (src_l (ev_var rfl)) rfl (fun x i => gt_name) ?_ ?_)
  · rintro j q ⟨ls, o⟩ G1 F H σ M hk hi c hM
    dsimp only at hi c
    have hm := List.mem_of_getElem? hk
    refine st_app (R := S (lineW (pieL q))) (j := 0) c (ev_var rfl) rfl (ev_join (K := K) (x := Str.ofString " ") (ys := (pieL q).map strI) ev_c (ev_is (ev_lcSA (K := K) (xs := pieL q) (f := fun n : Int => I n) (fun n => [some (Ls K (row.map (Pc K))), some (Rf p), some (Pc K q), some (I n)]) (fun n => S (strI n)) (src_t (ev_is (ev_var rfl) rfl)) (fun x => gt_name) (by decide) (fun n hn => (ev_cb (ea_cons (ev_var rfl) ea_nil) (rc_strI (num_log (hg q hm n hn).1 (hg q hm n hn).2)))) (show 4 ≤ 100000 by decide)) (by rw [List.map_map]; rfl)) (line_sums (hg q hm))) (by rw [List.length_map, hi, List.length_map, List.length_take]; omega) (fun F H c _ => ?_)
    refine hM (ls ++ [lineW (pieL q)], some (Pc K q)) F H σ (by dsimp only; rw [hi, List.take_succ, hk, List.map_append]; rfl) ?_
    dsimp only
    rw [List.map_append]
    exact c
  · rintro ⟨ls, o⟩ F H σ hi c
    dsimp only at hi c
    rw [List.take_length] at hi
    have e : ls = (row.map pieL).map lineW := by rw [hi, List.map_map]; rfl
    subst e
    exact st_ret c (ev_peek (i := 1) (j := 0) rfl rfl (ev_join (K := K) (x := Str.ofString "\n") ev_c (ev_var rfl) (text_sums hl hg))) (fun v F' H' c _ r => hq v F' H' c.ext c.sub r)
def sp__law_number (K : PySem.W.Frag) (C : Str → Addr) : Sp := CtF (fun w : Str => [S w]) (fun w => w.length ≤ 100000 ∧ PyData.strOk w = true) (fun w => Op (fun n => I n) (numO w))
theorem ok__law_number (T : G K mg C)  : Dn P w K mg base 1 "_law_number" ["_law_word"] (sp__law_number K C) := by
  refine T.d__law_number.ok sc__law_number (by first | exact CtF.len (fun _ => rfl) | exact CtE.len (fun _ => rfl) | exact CtR.len (fun _ => rfl) | exact CtM.len (fun _ => rfl) | exact CtO.len (fun _ => rfl) | exact CtRO.len (fun _ => rfl) | exact CtX.len (fun _ => rfl) | exact CtMX.len (fun _ => rfl) | exact CtME.len (fun _ => rfl) | exact CtG.len (fun _ => rfl) | exact CtOX.len (fun _ => rfl) | exact CtV.len (fun _ => rfl) | exact spOr_len (by first | exact CtR.len (fun _ => rfl) | exact CtM.len (fun _ => rfl) | exact CtG.len (fun _ => rfl) | exact CtF.len (fun _ => rfl) | exact CtRO.len (fun _ => rfl)) (by first | exact CtRO.len (fun _ => rfl) | exact CtN.len (fun _ => rfl) | exact CtR.len (fun _ => rfl) | exact CtG.len (fun _ => rfl) | exact CtM.len (fun _ => rfl)) | exact sp__law_number_len) (fun f cdv A outer s H vs Q E hr h => ?_)
  obtain ⟨w, F, sFH, ha, ⟨hl, hok⟩, hq⟩ := h
  have c := ctx_start (N := ["_law_word", "_law_sign"]) sFH ha
  dsimp only at hl hok hq
  have c : Ctx ⟨F, H, [], F, []⟩ F H _ [some (S w), none] [] := c
  refine ⟨_, (pss_cons (ps_if (PW.pt (pw_or (pt_cmpR op_eq (pv 0) pe_str (nomark _)) (pw_or (pt_cmpR op_gt (pe_callB call_len_str (by rfl) T.b_len (by decide +kernel) (pa_cons (pv 0) pa_nil)) pe_int (nomark _)) (pw_or1 (PW.pt (pw_and (pt_cmpR op_eq (pe_ix ix_str (pv 0) pe_int (fun _ _ => rfl)) pe_str (nomark _)) (pw_and1 (pt_cmpR op_gt (pe_callB call_len_str (by rfl) T.b_len (by decide +kernel) (pa_cons (pv 0) pa_nil)) pe_int (nomark _)))))))))
      (pss_one (ps_ret pe_non))
      pss_nil)
    (pss_cons (ps_if (pt_cmpR (op_neD hr.units) (by exact (pe_lc (own := [("_law_sign", 1)]) rfl sc__law_number.nd (pi_str (pv 0)) (blkOk_by (N := ["_law_word", "_law_sign"]) (sc := defScope s__law_number) (by decide +kernel)) (fun _ _ _ _ _ => (pg_name (i := 1) sc__law_number.nd rfl (by first | exact Or.inl rfl | exact Or.inr rfl))) (fun _ _ _ _ _ => (pts_one (pt_cmpR op_notIn_str (pv 1) pe_str (by rfl)))) (fun _ _ _ _ _ => (pv 1)))) (pe_lst pa_nil) (nomark _))
      (pss_one (ps_ret pe_non))
      pss_nil)
    (pss_one (ps_ret (pe_callTy (show CallR _ (Value.type "int") rIntS from call_int_str) (by rfl) T.b_int (by decide +kernel) (pa_cons (pv 0) pa_nil)))))), ?_⟩
  have hlc := len_cps w
  refine sq (st_if c (et_or (et_test (ev_eqS (ev_var rfl) (ev_is ev_c (show S (Str.ofString "") = S Str.empty from rfl)))) (fun hb => (et_or (et_test (ev_I0 (ev_cb (ea_cons (ev_var rfl) ea_nil) (rc_lenT2 hl)) ev_c)) (fun hb2 => (et_and (et_is (et_test (ev_eqS (ev_ixS (c := w.cps.toList.headD 0) (ev_var rfl) ev_c ⟨Nat.le_trans hl (by decide), by
    have hb : w ≠ Str.empty := of_decide_eq_false hb
    refine atI_nat (j := 0) ?_
    cases hc : w.cps.toList with
    | nil => exact absurd (str_inj (by rw [hc]; rfl)) hb
    | cons a b => rfl⟩) ev_c)) (show _ = decide (w.cps.toList.head? = some 48) by
    have hb : w ≠ Str.empty := of_decide_eq_false hb
    rw [decide_eq_decide]
    cases hc : w.cps.toList with
    | nil => exact absurd (str_inj (by rw [hc]; rfl)) hb
    | cons a b =>
      constructor
      · intro z
        have := congrArg (fun s : Str => s.cps.toList) z
        have e3 : [a] = [48] := this.trans zeroT_cps
        exact congrArg some (List.head_eq_of_cons_eq e3)
      · intro z
        have z : some a = some 48 := z
        rw [Option.some.inj z]
        exact str_inj zeroT_cps.symm)) (fun hb => (et_test (ev_I0 (ev_cb (ea_cons (ev_var rfl) ea_nil) (rc_lenT2 hl)) ev_c)))))))) (fun hb F H c _ => ?_) (fun hb F H c _ => nxt ?_))
  · rw [num_test hb] at hq
    exact st_ret c ev_c (fun v F' H' c _ r => hq v F' H' c.ext c.sub r)
  refine sq (st_if (b := !w.cps.toList.all dgB) c (et_is (et_test (ev_cmpNilS (xs := (w.cps.toList.filter fun k => !dgB k).map fun k => (⟨#[k]⟩ : Str)) true (lk (ev_ls2 (ev_lcS (K := K) (xs := w.cps.toList) (f := fun k : Nat => S ⟨#[k]⟩) (fun k => [some (S w), some (S ⟨#[k]⟩)]) (fun k => !dgB k) (fun k => S ⟨#[k]⟩) (src_s (ev_var rfl)) (fun x => gt_name) (by decide) (fun x hx => (et_test (ev_niC (ev_var rfl) ev_c))) (fun x hx hc => (ev_var rfl)) (by omega)) (by rw [List.map_map]; rfl))) (fun x hx => by
    obtain ⟨k, hk, e⟩ := List.mem_map.mp hx
    rw [← e]
    exact okS_one (okS_iff.mp hok k (List.mem_filter.mp hk).1)))) (by
    show (!List.isEmpty _) = _
    congr 1
    rw [Bool.eq_iff_iff, List.isEmpty_iff, List.map_eq_nil_iff, List.filter_eq_nil_iff, List.all_eq_true]
    exact ⟨fun h k hk => by simpa using h k hk, fun h k hk => by simpa using h k hk⟩)) (fun hb2 F H c _ => ?_) (fun hb2 F H c _ => nxt ?_))
  · have hb2 : w.cps.toList.all dgB = false := by simpa using hb2
    have e : numO w = none := by unfold numO isNum; rw [hb2]; simp
    rw [e] at hq
    exact st_ret c ev_c (fun v F' H' c _ r => hq v F' H' c.ext c.sub r)
  have hb2 : w.cps.toList.all dgB = true := by simpa using hb2
  obtain ⟨e, N, l⟩ := num_test2 hb hb2
  rw [e] at hq
  exact st_ret c (ev_cb (ea_cons (ev_var rfl) ea_nil) (rc_intS (N.val (by omega)) (by omega))) (fun v F' H' c _ r => hq v F' H' c.ext c.sub r)
def sp__law_due (K : PySem.W.Frag) (C : Str → Addr) : Sp := CtF (fun x : Str => [S x]) (fun x => x.length ≤ 10000 ∧ PyData.strOk x = true) (fun x => Op (fun row : List Pie => Ls K (row.map (Pc K))) (rowO x))
theorem ok__law_due (T : G K mg C) (D__law_number : Dn P w K mg base 1 "_law_number" ["_law_word"] (sp__law_number K C)) : Dn P w K mg base 2 "_law_due" ["_law_text_here"] (sp__law_due K C) := by
  refine T.d__law_due.ok sc__law_due (by first | exact CtF.len (fun _ => rfl) | exact CtE.len (fun _ => rfl) | exact CtR.len (fun _ => rfl) | exact CtM.len (fun _ => rfl) | exact CtO.len (fun _ => rfl) | exact CtRO.len (fun _ => rfl) | exact CtX.len (fun _ => rfl) | exact CtMX.len (fun _ => rfl) | exact CtME.len (fun _ => rfl) | exact CtG.len (fun _ => rfl) | exact CtOX.len (fun _ => rfl) | exact CtV.len (fun _ => rfl) | exact spOr_len (by first | exact CtR.len (fun _ => rfl) | exact CtM.len (fun _ => rfl) | exact CtG.len (fun _ => rfl) | exact CtF.len (fun _ => rfl) | exact CtRO.len (fun _ => rfl)) (by first | exact CtRO.len (fun _ => rfl) | exact CtN.len (fun _ => rfl) | exact CtR.len (fun _ => rfl) | exact CtG.len (fun _ => rfl) | exact CtM.len (fun _ => rfl)) | exact sp__law_due_len) (fun f cdv A outer s H vs Q E hr h => ?_)
  obtain ⟨x, F, sFH, ha, ⟨hl, hok⟩, hq⟩ := h
  have c := ctx_start (N := ["_law_text_here", "_law_row_here", "_law_line_of", "_law_numbers", "_law_word"]) sFH ha
  dsimp only at hl hok hq
  have c : Ctx ⟨F, H, [], F, []⟩ F H _ [some (S x), none, none, none, none] [] := c
  refine ⟨_, (pss_cons (ps_set (i := 1) sc__law_due.nd rfl (by first | exact Or.inl rfl | exact Or.inr rfl) (pe_lst pa_nil))
    (pss_cons (ps_if (pt_cmpR op_eq (pv 0) pe_str (nomark _))
      (pss_one (ps_ret (pv 1)))
      pss_nil)
    (pss_cons (ps_for PassesOwn.never rfl (pi_list (pe_bmK (K := K) rfl (r := rSplit) PySem.F.plainAttrs_str PySem.F.slot_str_split PySem.F.type_str_split (by exact mt_split) (pv 0) (pa_cons pe_str pa_nil))) (pg_name (i := 2) sc__law_due.nd rfl (by first | exact Or.inl rfl | exact Or.inr rfl))
      (pss_cons (by exact (ps_setLc (i := 3) (own := [("_law_word", 4)]) rfl sc__law_due.nd rfl rfl (sw_true rfl rfl rfl (by decide +kernel)) (pi_list (pe_bmK (K := K) rfl (r := rSplit) PySem.F.plainAttrs_str PySem.F.slot_str_split PySem.F.type_str_split (by exact mt_split) (pv 2) (pa_cons pe_str pa_nil))) (blkOk_by (N := ["_law_text_here", "_law_row_here", "_law_line_of", "_law_numbers", "_law_word"]) (sc := defScope s__law_due) (by decide +kernel)) (fun _ _ _ _ _ => (pg_name (i := 4) sc__law_due.nd rfl (by first | exact Or.inl rfl | exact Or.inr rfl))) (fun _ _ _ _ _ => pts_nil) (fun _ _ _ _ _ => (pe_d D__law_number (hr.mono (by decide)) (by rfl) (pa_cons (pv 4) pa_nil)))))
      (pss_cons (ps_if (PW.pt (pw_or (pt_cmpR op_ne (pe_callB call_len_seq (by rfl) T.b_len (by decide +kernel) (pa_cons (pv 3) pa_nil)) pe_int (nomark _)) (pw_or1 (pt_cmpR (show OpR _ (compareOp CmpOp.In) (rInD K) from op_inD (hu65 hr)) pe_non (pv 3) (by rfl)))))
        (pss_one (ps_ret pe_non))
        pss_nil)
      (pss_one (ps_expr (pe_bm PySem.F.plainAttrs_list PySem.F.slot_list_append PySem.F.type_list_append mt_append (pv 1) (pa_cons (pe_tup (pa_cons (pe_ix (show IxR _ (rIxL K) from ix_list) (pv 3) pe_int (fun _ _ => rfl)) (pa_cons (pe_ix (show IxR _ (rIxL K) from ix_list) (pv 3) pe_int (fun _ _ => rfl)) (pa_cons (pe_ix (show IxR _ (rIxL K) from ix_list) (pv 3) pe_int (fun _ _ => rfl)) (pa_cons (pe_ix (show IxR _ (rIxL K) from ix_list) (pv 3) pe_int (fun _ _ => rfl)) pa_nil))))) pa_nil)))))))
    (pss_one (ps_ret (pv 1)))))), ?_⟩
  have hsb : (16777216 : Nat) ≤ sizeLine := by decide
  refine sq (st_nil c (fun p F H σ c _ => ?_))
  have c : Ctx _ F H σ [some (S x), some (Rf p), none, none, none] [(p, oL (([] : List Pie).map (Pc K)))] := c
  by_cases hne : x = Str.empty
  · have e0 : rowO x = some [] := by unfold rowO; rw [if_pos hne]
    rw [e0] at hq
    refine sq (st_if (b := true) c (et_is (et_test (ev_eqS (ev_var rfl) (ev_is ev_c (show S (Str.ofString "") = S Str.empty from rfl)))) (decide_eq_true hne)) (fun hb F H c _ => ?_) (fun hb F H c _ => (by cases hb)))
    exact st_retL (K := K) (j := 0) c (ev_var rfl) rfl rdL rfl (fun v F' H' c _ r => hq v F' H' c.ext c.sub r)
  refine sq (st_if (b := false) c (et_is (et_test (ev_eqS (ev_var rfl) (ev_is ev_c (show S (Str.ofString "") = S Str.empty from rfl)))) (decide_eq_false hne)) (fun hb F H c _ => (by cases hb)) (fun hb F H c _ => nxt ?_))
  obtain ⟨z1, z2⟩ := lf_sz x
  obtain ⟨ls, els⟩ : ∃ ls, Txt.split x lfT = ls := ⟨_, rfl⟩
  have er : rowO x = allO (ls.map pieO) := by unfold rowO; rw [if_neg hne, els]
  rw [els] at z1 z2
  refine sq (st_forS (xs := ls) (f := fun z => S z) (fun i : List Pie × Option As × Option As => [some (S x), some (Rf p), i.2.1, i.2.2, none]) (fun y i => [some (S x), some (Rf p), some (S y), i.2.2, none]) (fun i => [(p, oL (i.1.map (Pc K)))]) (fun j i => (ls.take j).map pieO = i.1.map some) ([], none, none) c (src_l (ev_is (ev_split (K := K) (ev_var rfl) ev_c (by decide +kernel) (by omega)) (by show Ls K ((Txt.split x lfT).map fun z => S z) = Ls K (ls.map fun z => S z); rw [els]))) rfl (fun x i => gt_name) ?_ ?_)
  · rintro j y ⟨row, o1, o2⟩ G1 F H σ M hk hi c hM
    dsimp only at hi c
    have hm := List.mem_of_getElem? hk
    have hjl := (List.getElem?_eq_some_iff.mp hk).1
    obtain ⟨y1, y2⟩ := z1 y hm
    have y2 := y2 hok
    obtain ⟨w1, w2⟩ := bl_sz y
    obtain ⟨ws, ews⟩ : ∃ ws, Txt.split y blT = ws := ⟨_, rfl⟩
    have ep : pieO y = pie4 (ws.map numO) := by unfold pieO; rw [ews]
    rw [ews] at w1 w2
    have hrl : row.length ≤ 10001 := by
      have := congrArg List.length hi
      rw [List.length_map, List.length_map, List.length_take] at this
      omega
    refine sq (st_set (R := Ls K ((ws.map numO).map (Op fun n : Int => I n))) c (ev_is (ev_lcSA (K := K) (xs := ws) (f := fun z => S z) (fun w => [some (S x), some (Rf p), some (S y), o2, some (S w)]) (fun w => Op (fun n : Int => I n) (numO w)) (src_l (ev_is (ev_split (K := K) (ev_var rfl) ev_c (by decide +kernel) (by omega)) (by show Ls K ((Txt.split y blT).map fun z => S z) = Ls K (ws.map fun z => S z); rw [ews]))) (fun x => gt_name) (by decide) (fun w hw => (ev_call w (ea_cons (ev_var rfl) ea_nil) ⟨by have := (w1 w hw).1; omega, (w1 w hw).2 y2⟩)) (by omega)) (by rw [List.map_map]; rfl)) (fun F H σ c _ => ?_))
    have c : Ctx _ F H σ [some (S x), some (Rf p), some (S y), some (Ls K ((ws.map numO).map (Op fun n : Int => I n))), none] [(p, oL (row.map (Pc K)))] := c
    refine sq (st_if (b := !decide ((ws.length : Int) = 4) || decide (none ∈ ws.map numO)) c (et_or (et_is (et_test (ev_neI (ev_lenLk (K := K) (lk (ev_var rfl))) ev_c)) (by rw [List.length_map, List.length_map])) (fun hb => (et_is (et_test (ev_inK (K := K) (x := (none : Option Int)) (xs := ws.map numO) (kdO (K := K)) ev_c (lk (ev_var rfl)))) (decide_eq_decide.mpr Iff.rfl)))) (fun hb F H c _ => ?_) (fun hb F H c _ => nxt ?_))
    · have e0 : pieO y = none := by
        rw [ep]
        refine pie4_no ?_
        rw [Bool.or_eq_true] at hb
        rcases hb with z | z
        · left
          have z : ¬ (ws.length : Int) = 4 := by simpa using z
          rw [List.length_map]; omega
        · right
          exact of_decide_eq_true z
      have e1 : rowO x = none := by
        rw [er]
        exact allO_none (n := j) (by rw [List.getElem?_map, hk]; exact congrArg some e0)
      rw [e1] at hq
      exact st_ret c ev_c (fun v F' H' c _ r => hq v F' H' c.ext c.sub r)
    · rw [Bool.or_eq_false_iff] at hb
      obtain ⟨hb1, hb2⟩ := hb
      have h4 : (ws.length : Int) = 4 := by simpa using hb1
      obtain ⟨a, b, d, e, e4⟩ := pie4_yes (l := ws.map numO) (by rw [List.length_map]; omega) (of_decide_eq_false hb2)
      rw [e4] at c ep
      have ep : pieO y = some (a, b, d, e) := ep
      refine st_app (R := Pc K (a, b, d, e)) (j := 0) c (ev_var rfl) rfl (ev_tup (K := K) (ea_cons (ev_ixLk (K := K) (R := I a) (lk (ev_var rfl)) ev_c rfl) (ea_cons (ev_ixLk (K := K) (R := I b) (lk (ev_var rfl)) ev_c rfl) (ea_cons (ev_ixLk (K := K) (R := I d) (lk (ev_var rfl)) ev_c rfl) (ea_cons (ev_ixLk (K := K) (R := I e) (lk (ev_var rfl)) ev_c rfl) ea_nil)))) (show 4 ≤ 1000 by decide)) (by rw [List.length_map]; omega) (fun F H c _ => ?_)
      refine hM (row ++ [(a, b, d, e)], some (S y), some (Ls K (([some a, some b, some d, some e] : List (Option Int)).map (Op fun n : Int => I n)))) F H σ ?_ ?_
      · dsimp only
        rw [List.take_succ, hk, List.map_append, List.map_append, hi]
        show _ ++ [pieO y] = _
        rw [ep]; rfl
      · dsimp only
        rw [List.map_append]
        exact c
  · rintro ⟨row, o1, o2⟩ F H σ hi c
    dsimp only at hi c
    rw [List.take_length] at hi
    have e1 : rowO x = some row := by rw [er, hi, allO_some]
    rw [e1] at hq
    exact st_retL (K := K) (j := 0) c (ev_var rfl) rfl rdL rfl (fun v F' H' c _ r => hq v F' H' c.ext c.sub r)
def sp__law_bad (K : PySem.W.Frag) (C : Str → Addr) : Sp := CtF (fun row : List Pie => [Ls K (row.map (Pc K))]) (fun row => (∀ p ∈ row, 0 ≤ p.2.1) ∧ row.length ≤ 20000) (fun row => Op (fun n : Int => I n) (bdO row))
theorem ok__law_bad (T : G K mg C)  : Dn P w K mg base 1 "_law_bad" ["_law_row_here"] (sp__law_bad K C) := by
  refine T.d__law_bad.ok sc__law_bad (by first | exact CtF.len (fun _ => rfl) | exact CtE.len (fun _ => rfl) | exact CtR.len (fun _ => rfl) | exact CtM.len (fun _ => rfl) | exact CtO.len (fun _ => rfl) | exact CtRO.len (fun _ => rfl) | exact CtX.len (fun _ => rfl) | exact CtMX.len (fun _ => rfl) | exact CtME.len (fun _ => rfl) | exact CtG.len (fun _ => rfl) | exact CtOX.len (fun _ => rfl) | exact CtV.len (fun _ => rfl) | exact spOr_len (by first | exact CtR.len (fun _ => rfl) | exact CtM.len (fun _ => rfl) | exact CtG.len (fun _ => rfl) | exact CtF.len (fun _ => rfl) | exact CtRO.len (fun _ => rfl)) (by first | exact CtRO.len (fun _ => rfl) | exact CtN.len (fun _ => rfl) | exact CtR.len (fun _ => rfl) | exact CtG.len (fun _ => rfl) | exact CtM.len (fun _ => rfl)) | exact sp__law_bad_len) (fun f cdv A outer s H vs Q E hr h => ?_)
  obtain ⟨row, F, sFH, ha, ⟨hw, hl⟩, hq⟩ := h
  have c := ctx_start (N := ["_law_row_here", "_law_last", "_law_place", "_law_piece", "_law_at", "_law_who", "_law_length", "_law_share"]) sFH ha
  dsimp only at hw hl hq
  have c : Ctx ⟨F, H, [], F, []⟩ F H _ [some (Ls K (row.map (Pc K))), none, none, none, none, none, none, none] [] := c
  refine ⟨_, (pss_cons (ps_set (i := 1) sc__law_bad.nd rfl (by first | exact Or.inl rfl | exact Or.inr rfl) pe_int)
    (pss_cons (ps_for PassesOwn.never rfl (pi_enum (by rfl) T.b_enumerate (pa_cons (pv 0) pa_nil)) (show PG _ _ (gTup K 2 _) from pg_tup rfl (pgs_cons (pg_name (i := 2) sc__law_bad.nd rfl (by first | exact Or.inl rfl | exact Or.inr rfl)) (pgs_cons (pg_name (i := 3) sc__law_bad.nd rfl (by first | exact Or.inl rfl | exact Or.inr rfl)) pgs_nil)))
      (pss_cons (ps_asg (pv 3) (show PG _ _ (gTup K 4 _) from pg_tup rfl (pgs_cons (pg_name (i := 4) sc__law_bad.nd rfl (by first | exact Or.inl rfl | exact Or.inr rfl)) (pgs_cons (pg_name (i := 5) sc__law_bad.nd rfl (by first | exact Or.inl rfl | exact Or.inr rfl)) (pgs_cons (pg_name (i := 6) sc__law_bad.nd rfl (by first | exact Or.inl rfl | exact Or.inr rfl)) (pgs_cons (pg_name (i := 7) sc__law_bad.nd rfl (by first | exact Or.inl rfl | exact Or.inr rfl)) pgs_nil))))))
      (pss_cons (ps_if (PW.pt (pw_or (pt_cmpR op_gt (pv 2) pe_int (nomark _)) (pw_or (pt_cmpR op_lt (pv 4) (pv 1) (nomark _)) (pw_or (pt_cmpR op_gt (pv 4) (pe_op op_pow pe_int pe_int) (nomark _)) (pw_or1 (pt_cmpR op_gt (pv 5) pe_int (nomark _)))))))
        (pss_one (ps_ret (pv 2)))
        pss_nil)
      (pss_cons (ps_if (PW.pt (pw_or (pt_cmpR op_lt (pv 6) pe_int (nomark _)) (pw_or (pt_cmpR op_gt (pv 6) (pe_op op_pow pe_int pe_int) (nomark _)) (pw_or (pt_cmpR op_lt (pv 7) pe_int (nomark _)) (pw_or1 (pt_cmpR op_gt (pv 7) (pe_op op_pow pe_int pe_int) (nomark _)))))))
        (pss_one (ps_ret (pv 2)))
        pss_nil)
      (pss_one (ps_set (i := 1) sc__law_bad.nd rfl (by first | exact Or.inl rfl | exact Or.inr rfl) (pv 4)))))))
    (pss_one (ps_ret pe_non)))), ?_⟩
  refine sq (st_set c ev_c (fun F H σ c _ => ?_))
  have c : Ctx _ F H σ [some (Ls K (row.map (Pc K))), some (I 0), none, none, none, none, none, none] [] := c
  refine sq (st_forS (xs := row.zipIdx) (f := Et K (Pc K)) (fun i : Int × Option As × Option As × Option As × Option As × Option As × Option As => [some (Ls K (row.map (Pc K))), some (I i.1), i.2.1, i.2.2.1, i.2.2.2.1, i.2.2.2.2.1, i.2.2.2.2.2.1, i.2.2.2.2.2.2]) (fun y i => [some (Ls K (row.map (Pc K))), some (I i.1), some (I (y.2 : Int)), some (Pc K y.1), i.2.2.2.1, i.2.2.2.2.1, i.2.2.2.2.2.1, i.2.2.2.2.2.2]) (fun _ => []) (fun j i => fbad j i.1 (row.drop j) = fbad 0 0 row) (0, none, none, none, none, none, none) c (src_e (ea_cons (ev_var rfl) ea_nil)) rfl (fun x i => gt_tup (gts_cons gt_name (gts_cons gt_name gts_nil))) ?_ ?_)
  · rintro j ⟨p, w⟩ ⟨e, o1, o2, o3, o4, o5, o6⟩ G1 F H σ M hk hf c hM
    dsimp only at hf c
    rw [List.getElem?_zipIdx] at hk
    obtain ⟨p', hp', es⟩ := Option.map_eq_some_iff.mp hk
    have es1 : p' = p := congrArg Prod.fst es
    have ew : 0 + j = w := congrArg Prod.snd es
    have ew : j = w := by omega
    subst es1 ew
    rw [fbad_step hp'] at hf
    have hwho := hw p' (List.mem_of_getElem? hp')
    obtain ⟨pa, pw, pn, ps⟩ := p'
    dsimp only at hf hwho
    refine sq (st_asg (R := Pc K (pa, pw, pn, ps)) c (ev_var rfl) (gt_tup (Rs := [I pa, I pw, I pn, I ps]) (gts_cons gt_name (gts_cons gt_name (gts_cons gt_name (gts_cons gt_name gts_nil))))) (fun F H σ c _ => ?_))
    have c : Ctx _ F H σ [some (Ls K (row.map (Pc K))), some (I e), some (I (j : Int)), some (Pc K (pa, pw, pn, ps)), some (I pa), some (I pw), some (I pn), some (I ps)] [] := c
    have bad : ¬ (j < 60 ∧ gP (pa, pw, pn, ps) e) → bdO row = some (j : Int) := fun z => by
      rw [if_neg z] at hf
      unfold bdO
      rw [← hf]; rfl
    refine sq (st_if c (et_or (et_test (ev_I0 (ev_var rfl) ev_c)) (fun hb => (et_or (et_test (ev_I0 (ev_var rfl) (ev_var rfl))) (fun hb => (et_or (et_test (ev_I0 (ev_var rfl) (ev_k (n := 1000000000000) (ev_I ev_c ev_c (by walk_at "y")) (by decide +kernel)))) (fun hb => (et_test (ev_I0 (ev_var rfl) ev_c)))))))) (fun hb F H c _ => ?_) (fun hb F H c _ => ?_))
    · rw [bad (by
        unfold gP
        simp at hb
        dsimp only
        omega)] at hq
      exact st_ret c (ev_var rfl) (fun v F' H' c _ r => hq v F' H' c.ext c.sub r)
    refine nxt ?_
    have hb1 := hb
    refine sq (st_if c (et_or (et_test (ev_I0 (ev_var rfl) ev_c)) (fun hb => (et_or (et_test (ev_I0 (ev_var rfl) (ev_k (n := 1000000) (ev_I ev_c ev_c (by walk_at "y")) (by decide +kernel)))) (fun hb => (et_or (et_test (ev_I0 (ev_var rfl) ev_c)) (fun hb => (et_test (ev_I0 (ev_var rfl) (ev_k (n := 1000000) (ev_I ev_c ev_c (by walk_at "y")) (by decide +kernel)))))))))) (fun hb F H c _ => ?_) (fun hb F H c _ => ?_))
    · rw [bad (by
        unfold gP
        simp at hb
        dsimp only
        omega)] at hq
      exact st_ret c (ev_var rfl) (fun v F' H' c _ r => hq v F' H' c.ext c.sub r)
    refine nxt ?_
    have hg : j < 60 ∧ gP (pa, pw, pn, ps) e := by
      unfold gP
      simp at hb hb1
      dsimp only
      omega
    rw [if_pos hg] at hf
    refine st_set c (ev_var rfl) (fun F H σ c _ => ?_)
    exact hM (pa, some (I (j : Int)), some (Pc K (pa, pw, pn, ps)), some (I pa), some (I pw), some (I pn), some (I ps)) F H σ hf c
  · rintro ⟨e, o1, o2, o3, o4, o5, o6⟩ F H σ hf c
    dsimp only at hf c
    have e0 : bdO row = none := by
      unfold bdO
      rw [← hf, List.length_zipIdx, List.drop_length]; rfl
    rw [e0] at hq
    exact st_ret c ev_c (fun v F' H' c _ r => hq v F' H' c.ext c.sub r)
def sp__law_read (K : PySem.W.Frag) (C : Str → Addr) : Sp := CtF (fun x : Str => [S x]) (fun x => x.length ≤ 10000) (fun x => resA K x)
theorem ok__law_read (T : G K mg C) (D_read_row : Dn P w K mg base 4 "read_row" ["text"] (sp_read_row K C)) : Dn P w K mg base 5 "_law_read" ["_law_text_here"] (sp__law_read K C) := by
  refine T.d__law_read.okX sc__law_read (by first | exact CtF.len (fun _ => rfl) | exact CtE.len (fun _ => rfl) | exact CtR.len (fun _ => rfl) | exact CtM.len (fun _ => rfl) | exact CtO.len (fun _ => rfl) | exact CtRO.len (fun _ => rfl) | exact CtX.len (fun _ => rfl) | exact CtMX.len (fun _ => rfl) | exact CtME.len (fun _ => rfl) | exact CtG.len (fun _ => rfl) | exact CtOX.len (fun _ => rfl) | exact CtV.len (fun _ => rfl) | exact spOr_len (by first | exact CtR.len (fun _ => rfl) | exact CtM.len (fun _ => rfl) | exact CtG.len (fun _ => rfl) | exact CtF.len (fun _ => rfl) | exact CtRO.len (fun _ => rfl)) (by first | exact CtRO.len (fun _ => rfl) | exact CtN.len (fun _ => rfl) | exact CtR.len (fun _ => rfl) | exact CtG.len (fun _ => rfl) | exact CtM.len (fun _ => rfl)) | exact sp__law_read_len) (fun f cdv A outer s H vs Q E hr h => ?_)
  obtain ⟨x, F, sFH, ha, hl, hq⟩ := h
  have c := ctx_start (N := ["_law_text_here", "e", "_law_found"]) sFH ha
  dsimp only at hl hq
  have c : Ctx ⟨F, H, [], F, []⟩ F H _ [some (S x), none, none] [] := c
  refine ⟨_, (pss_cons (ps_tryM rfl rfl sc__law_read.nd takes0
      (fun W pn xe tk _ => (pss_one (ps_set (i := 2) sc__law_read.nd rfl (by first | exact Or.inl rfl | exact Or.inr rfl) (pe_dS tk D_read_row (hr.mono (by decide)) (by rfl) (pa_cons (pv 0) pa_nil)))))
      (.as (i := 1) rfl rfl ⟨rfl, by decide, .inl T.h_NoText⟩ (fun a oe cls d pn hz hf => (pss_cons (ps_if (pt_val (pe_callB (call_isE1 T.i_NoText hz.zc hf) (by rfl) T.b_isinstance (by decide +kernel) (pa_cons (pv 1) (pa_cons (pe_glob (v := .ref (C "BadRow")) (by rfl) T.h_BadRow rfl) pa_nil))))
        (pss_one (ps_ret pe_non))
        pss_nil)
      (pss_one (ps_ret (pe_tup (pa_cons pe_str pa_nil)))))) (.as (i := 1) rfl rfl ⟨rfl, by decide, .inl T.h_BadRow⟩ (fun a oe cls d pn hz hf => (pss_one (ps_ret (pe_tup (pa_cons pe_str (pa_cons (pe_xf T.f_BadRow T.m_BadRow_place hz.zc hf (pv 1)) pa_nil)))))) .nil)))
    (pss_one (ps_ret (pv 2)))), ?_⟩
  unfold resA at hq
  cases er : rowO x with
  | none =>
    rw [er] at hq
    refine sq (rz_asg c (rz_callN or_l x (ea_cons (ev_var rfl) ea_nil) (List.Sublist.refl _) ⟨hl, er⟩) (fun F H c _ => ?_))
    refine wm_hit T.p_NoText_NoText (fun a0 _ => ?_)
    have c := c.set (R := Rf a0) 1 rfl
    refine sq (st_if (b := false) c (et_B (ev_isE (ev_var rfl) ev_c (.own _) T.k_NoText_BadRow)) (fun hb F H c _ => (by cases hb)) (fun hb F H c _ => nxt ?_))
    exact st_ret c (ev_tup (K := K) (ea_cons ev_c ea_nil) (show 1 ≤ 1000 by decide)) (fun v F' H' c _ r => hq v F' H' c.ext c.sub r)
  | some row =>
    rw [er] at hq
    refine sq (asgX (cl_Xs or_r x c (ea_cons (ev_var rfl) ea_nil) ⟨hl, by rw [er]; rfl⟩ (fun g v F H c _ r => ?_) (fun g d F H c _ => ?_)))
    · have eb : bdO row = none := by
        rw [er] at g
        have g : fbad 0 0 row = none := g
        unfold bdO
        rw [g]; rfl
      dsimp only at hq
      rw [eb] at hq
      rw [er] at r
      have r : (Ls K (row.map (Pc K))).p F v := r
      have c := c.set (R := Ls K (row.map (Pc K))) 2 r
      exact st_ret c (ev_var rfl) (fun v F' H' c _ r => hq v F' H' c.ext c.sub r)
    · rw [er] at g c
      have g : ¬ fbad 0 0 row = none := g
      obtain ⟨b, hb⟩ : ∃ b, fbad 0 0 row = some b := by
        cases h : fbad 0 0 row with
        | none => exact absurd h g
        | some b => exact ⟨b, rfl⟩
      have eb : bdO row = some (b : Int) := by unfold bdO; rw [hb]; rfl
      dsimp only at hq
      rw [eb] at hq
      have c : Ctx _ F H _ _ ((d, oXd [("place", I ((bdO row).getD 0))]) :: []) := c
      rw [eb] at c
      refine wm_skip T.np_BadRow_NoText (wm_hit T.p_BadRow_BadRow (fun a0 _ => ?_))
      have c := c.set (R := Rf a0) 1 rfl
      exact st_ret c (ev_tup (K := K) (ea_cons ev_c (ea_cons (ev_xf (j := 0) (ev_var rfl) rfl rfl) ea_nil)) (show 2 ≤ 1000 by decide)) (fun v F' H' c _ r => hq v F' H' c.ext c.sub r)
def sp__law_kinds (K : PySem.W.Frag) (C : Str → Addr) : Sp := CtF (fun row : List Pie => [Ls K (row.map (Pc K))]) (fun _ => True) (fun _ => B true)
theorem ok__law_kinds (T : G K mg C)  : Dn P w K mg base 1 "_law_kinds" ["_law_found"] (sp__law_kinds K C) := by
  refine T.d__law_kinds.ok sc__law_kinds (by first | exact CtF.len (fun _ => rfl) | exact CtE.len (fun _ => rfl) | exact CtR.len (fun _ => rfl) | exact CtM.len (fun _ => rfl) | exact CtO.len (fun _ => rfl) | exact CtRO.len (fun _ => rfl) | exact CtX.len (fun _ => rfl) | exact CtMX.len (fun _ => rfl) | exact CtME.len (fun _ => rfl) | exact CtG.len (fun _ => rfl) | exact CtOX.len (fun _ => rfl) | exact CtV.len (fun _ => rfl) | exact spOr_len (by first | exact CtR.len (fun _ => rfl) | exact CtM.len (fun _ => rfl) | exact CtG.len (fun _ => rfl) | exact CtF.len (fun _ => rfl) | exact CtRO.len (fun _ => rfl)) (by first | exact CtRO.len (fun _ => rfl) | exact CtN.len (fun _ => rfl) | exact CtR.len (fun _ => rfl) | exact CtG.len (fun _ => rfl) | exact CtM.len (fun _ => rfl)) | exact sp__law_kinds_len) (fun f cdv A outer s H vs Q E hr h => ?_)
  obtain ⟨row, F, sFH, ha, _, hq⟩ := h
  have c := ctx_start (N := ["_law_found", "_law_piece", "_law_one"]) sFH ha
  dsimp only at hq
  have c : Ctx ⟨F, H, [], F, []⟩ F H _ [some (Ls K (row.map (Pc K))), none, none] [] := c
  refine ⟨_, (pss_cons (ps_if (pt_not (pt_val (pe_callB call_isi (by rfl) T.b_isinstance (by decide +kernel) (pa_cons (pv 0) (pa_cons (pe_bltn (by rfl) T.b_list (u := .type "list") (v := .ty "list") (by decide +kernel) rfl) pa_nil)))))
      (pss_one (ps_ret pe_bl))
      pss_nil)
    (pss_cons (ps_for PassesOwn.never rfl (pi_list (pv 0)) (pg_name (i := 1) sc__law_kinds.nd rfl (by first | exact Or.inl rfl | exact Or.inr rfl))
      (pss_one (ps_if (PW.pt (pw_or (pt_not (pt_val (pe_callB call_isi (by rfl) T.b_isinstance (by decide +kernel) (pa_cons (pv 1) (pa_cons (pe_bltn (by rfl) T.b_tuple (u := .type "tuple") (v := .ty "tuple") (by decide +kernel) rfl) pa_nil))))) (pw_or1 (pt_cmpR (op_neD hr.units) (by exact (pe_lc (own := [("_law_one", 2)]) rfl sc__law_kinds.nd (pi_tup (pv 1)) (blkOk_by (N := ["_law_found", "_law_piece", "_law_one"]) (sc := defScope s__law_kinds) (by decide +kernel)) (fun _ _ _ _ _ => (pg_name (i := 2) sc__law_kinds.nd rfl (by first | exact Or.inl rfl | exact Or.inr rfl))) (fun _ _ _ _ _ => (pts_one (pt_not (pt_val (pe_callB (show CallR _ (.builtin "isinstance") (rIsi K) from call_isi) (by rfl) T.b_isinstance (by decide +kernel) (pa_cons (pv 2) (pa_cons (pe_bltn (by rfl) T.b_int (u := .type "int") (v := .ty "int") (by decide +kernel) rfl) pa_nil))))))) (fun _ _ _ _ _ => (pv 2)))) (pe_lst pa_nil) (nomark _)))))
        (pss_one (ps_ret pe_bl))
        pss_nil)))
    (pss_one (ps_ret pe_bl)))), ?_⟩
  refine sq (st_if (b := false) c (et_is (et_not (et_B (ev_cb (ea_cons (ev_var rfl) (ea_cons ev_c ea_nil)) (rc_isi (.ty _) ty_lst (kit_ty (r := true) rfl))))) rfl) (fun hb F H c _ => (by cases hb)) (fun hb F H c _ => nxt ?_))
  refine sq (st_forS (xs := row) (f := Pc K) (fun i : Option As => [some (Ls K (row.map (Pc K))), i, none]) (fun y i => [some (Ls K (row.map (Pc K))), some (Pc K y), none]) (fun _ => []) (fun _ _ => True) none c (src_l (ev_var rfl)) trivial (fun x i => gt_name) ?_ ?_)
  · rintro j p o G1 F H σ M hk _ c hM
    refine st_if (b := false) c (et_or (a := false) (b := false) (et_is (et_not (et_B (ev_cb (ea_cons (ev_var rfl) (ea_cons ev_c ea_nil)) (rc_isi (.ty _) ty_tup (kit_ty (r := true) rfl))))) rfl) (fun hb => (et_is (et_test (ev_cmpNil (xs := (pieL p).filter fun _ => false) true (kd_int (K := K)) (lk (ev_lcS (K := K) (xs := pieL p) (f := fun n : Int => I n) (fun n => [some (Ls K (row.map (Pc K))), some (Pc K p), some (I n)]) (fun _ => false) (fun n => I n) (src_t (ev_is (ev_var rfl) rfl)) (fun x => gt_name) (by decide) (fun x hx => (et_is (et_not (et_B (ev_cb (ea_cons (ev_var rfl) (ea_cons ev_c ea_nil)) (rc_isi (.ty _) ty_int (kit_ty (r := true) rfl))))) rfl)) (fun x hx hc => ev_var rfl) (show 4 ≤ 100000 by decide))))) (by simp)))) (fun hb F H c _ => (by cases hb)) (fun hb F H c _ => nxt ?_)
    exact hM (some (Pc K p)) F H σ trivial c
  · rintro o F H σ _ c
    exact st_ret c ev_c (fun v F' H' c _ r => hq v F' H' c.ext c.sub r)
def sp__law_right (K : PySem.W.Frag) (C : Str → Addr) : Sp := CtF (fun x : Str => [S x]) (fun x => x.length ≤ 10000 ∧ PyData.strOk x = true) (fun _ => B true)
theorem ok__law_right (T : G K mg C) (D__law_due : Dn P w K mg base 2 "_law_due" ["_law_text_here"] (sp__law_due K C)) (D__law_read : Dn P w K mg base 5 "_law_read" ["_law_text_here"] (sp__law_read K C)) (D__law_bad : Dn P w K mg base 1 "_law_bad" ["_law_row_here"] (sp__law_bad K C)) (D__law_kinds : Dn P w K mg base 1 "_law_kinds" ["_law_found"] (sp__law_kinds K C)) : Dn P w K mg base 6 "_law_right" ["_law_text_here"] (sp__law_right K C) := by
  refine T.d__law_right.ok sc__law_right (by first | exact CtF.len (fun _ => rfl) | exact CtE.len (fun _ => rfl) | exact CtR.len (fun _ => rfl) | exact CtM.len (fun _ => rfl) | exact CtO.len (fun _ => rfl) | exact CtRO.len (fun _ => rfl) | exact CtX.len (fun _ => rfl) | exact CtMX.len (fun _ => rfl) | exact CtME.len (fun _ => rfl) | exact CtG.len (fun _ => rfl) | exact CtOX.len (fun _ => rfl) | exact CtV.len (fun _ => rfl) | exact spOr_len (by first | exact CtR.len (fun _ => rfl) | exact CtM.len (fun _ => rfl) | exact CtG.len (fun _ => rfl) | exact CtF.len (fun _ => rfl) | exact CtRO.len (fun _ => rfl)) (by first | exact CtRO.len (fun _ => rfl) | exact CtN.len (fun _ => rfl) | exact CtR.len (fun _ => rfl) | exact CtG.len (fun _ => rfl) | exact CtM.len (fun _ => rfl)) | exact sp__law_right_len) (fun f cdv A outer s H vs Q E hr h => ?_)
  obtain ⟨x, F, sFH, ha, ⟨hl, hok⟩, hq⟩ := h
  have c := ctx_start (N := ["_law_text_here", "_law_row_here", "_law_found", "_law_bad_here"]) sFH ha
  dsimp only at hl hok hq
  have c : Ctx ⟨F, H, [], F, []⟩ F H _ [some (S x), none, none, none] [] := c
  refine ⟨_, (pss_cons (ps_set (i := 1) sc__law_right.nd rfl (by first | exact Or.inl rfl | exact Or.inr rfl) (pe_d D__law_due (hr.mono (by decide)) (by rfl) (pa_cons (pv 0) pa_nil)))
    (pss_cons (ps_set (i := 2) sc__law_right.nd rfl (by first | exact Or.inl rfl | exact Or.inr rfl) (pe_d D__law_read (hr.mono (by decide)) (by rfl) (pa_cons (pv 0) pa_nil)))
    (pss_cons (ps_if (pt_cmpR op_isN (pv 1) pe_non (nomark _))
      (pss_one (ps_ret (pe_cmpR (op_eqD hr.units) (pv 2) (pe_tup (pa_cons pe_str pa_nil)) (nomark _))))
      pss_nil)
    (pss_cons (ps_set (i := 3) sc__law_right.nd rfl (by first | exact Or.inl rfl | exact Or.inr rfl) (pe_d D__law_bad (hr.mono (by decide)) (by rfl) (pa_cons (pv 1) pa_nil)))
    (pss_cons (ps_if (pt_cmpR op_notN (pv 3) pe_non (nomark _))
      (pss_one (ps_ret (pe_cmpR (op_eqD hr.units) (pv 2) (pe_tup (pa_cons pe_str (pa_cons (pv 3) pa_nil))) (nomark _))))
      pss_nil)
    (pss_one (ps_ret (pe_and (pe_d D__law_kinds (hr.mono (by decide)) (by rfl) (pa_cons (pv 2) pa_nil)) (pe_one (pe_cmpR (op_eqD hr.units) (pv 2) (pv 1) (nomark _))))))))))), ?_⟩
  refine sq (st_set (R := Op (fun row : List Pie => Ls K (row.map (Pc K))) (rowO x)) c (ev_call x (ea_cons (ev_var rfl) ea_nil) ⟨hl, hok⟩) (fun F H σ c _ => ?_))
  refine sq (st_set (R := resA K x) c (ev_call x (ea_cons (ev_var rfl) ea_nil) hl) (fun F H σ c _ => ?_))
  have c : Ctx _ F H σ [some (S x), some (Op (fun row : List Pie => Ls K (row.map (Pc K))) (rowO x)), some (resA K x), none] [] := c
  refine sq (st_if (b := (rowO x).isNone) c (et_test (ev_isNO (fun x => nev_ls) (ev_var rfl))) (fun hb F H c _ => ?_) (fun hb F H c _ => nxt ?_))
  · have er : rowO x = none := by cases h : rowO x with
      | none => rfl
      | some r => rw [h] at hb; cases hb
    have e1 : resA K x = Tp K [S noneT] := by unfold resA; rw [er]
    rw [e1] at c
    exact st_ret c (ev_is (ev_eqD (K := K) (d := .tuple [.str noneT]) (e := .tuple [.str noneT]) (k := 1) (m := 1) (ev_var rfl) (ev_tup (K := K) (ea_cons ev_c ea_nil) (show 1 ≤ 1000 by decide)) (isd_tup ⟨isd_str, trivial⟩) (isd_tup ⟨isd_str, trivial⟩) (gd_tup fun d hd => by rw [List.mem_singleton.mp hd]; exact ⟨by decide +kernel, Nat.le_refl _⟩) (gd_tup fun d hd => by rw [List.mem_singleton.mp hd]; exact ⟨by decide +kernel, Nat.le_refl _⟩)) (congrArg (fun b : Bool => B b) (by decide +kernel))) (fun v F' H' c _ r => hq v F' H' c.ext c.sub r)
  obtain ⟨row, er⟩ : ∃ row, rowO x = some row := by cases h : rowO x with
    | none => rw [h] at hb; cases hb
    | some r => exact ⟨r, rfl⟩
  obtain ⟨hrl, hrw⟩ := row_parts hl er
  have e1 : Op (fun row : List Pie => Ls K (row.map (Pc K))) (rowO x) = Ls K (row.map (Pc K)) := by rw [er]; rfl
  rw [e1] at c
  refine sq (st_set (R := Op (fun n : Int => I n) (bdO row)) c (ev_call row (ea_cons (ev_var rfl) ea_nil) ⟨hrw, hrl⟩) (fun F H σ c _ => ?_))
  have c : Ctx _ F H σ [some (S x), some (Ls K (row.map (Pc K))), some (resA K x), some (Op (fun n : Int => I n) (bdO row))] [] := c
  refine sq (st_if (b := !(bdO row).isNone) c (et_test (ev_notNO nev_I (ev_var rfl))) (fun hb F H c _ => ?_) (fun hb F H c _ => nxt ?_))
  · obtain ⟨d, eb⟩ : ∃ d, bdO row = some d := by
      cases h : bdO row with
      | none => rw [h] at hb; cases hb
      | some d => exact ⟨d, rfl⟩
    have e2 : resA K x = Tp K [S badT, I d] := by unfold resA; rw [er]; dsimp only; rw [eb]
    have e3 : Op (fun n : Int => I n) (bdO row) = I d := by rw [eb]; rfl
    rw [e2, e3] at c
    have gd : Gd 1 (.tuple [.str badT, .int d]) := gd_tup fun y hy => by
      rcases List.mem_cons.mp hy with z | z
      · rw [z]; exact ⟨by decide +kernel, Nat.le_refl _⟩
      · rw [List.mem_singleton.mp z]; exact gd_int
    exact st_ret c (ev_is (ev_eqD (K := K) (d := .tuple [.str badT, .int d]) (e := .tuple [.str badT, .int d]) (k := 1) (m := 1) (ev_var rfl) (ev_tup (K := K) (ea_cons ev_c (ea_cons (ev_var rfl) ea_nil)) (show 2 ≤ 1000 by decide)) (isd_tup ⟨isd_str, isd_int, trivial⟩) (isd_tup ⟨isd_str, isd_int, trivial⟩) gd gd) (congrArg (fun b : Bool => B b) (by simp [PyData.eqv, PyData.eqvAll]))) (fun v F' H' c _ r => hq v F' H' c.ext c.sub r)
  have eb : bdO row = none := by cases h : bdO row with
    | none => rfl
    | some d => rw [h] at hb; cases hb
  have e2 : resA K x = Ls K (row.map (Pc K)) := by unfold resA; rw [er]; dsimp only; rw [eb]
  rw [e2] at c
  exact st_ret c (ev_andV (a := true) (b := true) (ev_call row (ea_cons (ev_var rfl) ea_nil) trivial) (fun hb => (ev_is (ev_eqK (K := K) (x := row) (y := row) (kd_list (kd_pc (K := K))) (ev_var rfl) (ev_var rfl)) (congrArg (fun b : Bool => B b) (decide_eq_true rfl))))) (fun v F' H' c _ r => hq v F' H' c.ext c.sub r)
def sp__law_changed (K : PySem.W.Frag) (C : Str → Addr) : Sp := CtF (fun a : Str × Int => [S a.1, I a.2]) (fun a => a.1.length ≤ 9990 ∧ PyData.strOk a.1 = true) (fun a => Xs (fun w : Str => w.length ≤ a.1.length + 1 ∧ PyData.strOk w = true) (fun w => S w))
theorem ok__law_changed (T : G K mg C)  : Dn P w K mg base 1 "_law_changed" ["_law_text_here", "_law_cell"] (sp__law_changed K C) := by
  refine T.d__law_changed.ok sc__law_changed (by first | exact CtF.len (fun _ => rfl) | exact CtE.len (fun _ => rfl) | exact CtR.len (fun _ => rfl) | exact CtM.len (fun _ => rfl) | exact CtO.len (fun _ => rfl) | exact CtRO.len (fun _ => rfl) | exact CtX.len (fun _ => rfl) | exact CtMX.len (fun _ => rfl) | exact CtME.len (fun _ => rfl) | exact CtG.len (fun _ => rfl) | exact CtOX.len (fun _ => rfl) | exact CtV.len (fun _ => rfl) | exact spOr_len (by first | exact CtR.len (fun _ => rfl) | exact CtM.len (fun _ => rfl) | exact CtG.len (fun _ => rfl) | exact CtF.len (fun _ => rfl) | exact CtRO.len (fun _ => rfl)) (by first | exact CtRO.len (fun _ => rfl) | exact CtN.len (fun _ => rfl) | exact CtR.len (fun _ => rfl) | exact CtG.len (fun _ => rfl) | exact CtM.len (fun _ => rfl)) | exact sp__law_changed_len) (fun f cdv A outer s H vs Q E hr h => ?_)
  obtain ⟨⟨w, n⟩, F, sFH, ha, ⟨hl, hok⟩, hq⟩ := h
  have c := ctx_start (N := ["_law_text_here", "_law_cell", "_law_at", "_law_sign"]) sFH ha
  dsimp only at hl hok hq
  have c : Ctx ⟨F, H, [], F, []⟩ F H _ [some (S w), some (I n), none, none] [] := c
  refine ⟨_, (pss_cons (ps_set (i := 2) sc__law_changed.nd rfl (by first | exact Or.inl rfl | exact Or.inr rfl) (pe_op op_mod (pe_op op_fdivW (pv 1) pe_int) (pe_op op_add (pe_callB call_len_str (by rfl) T.b_len (by decide +kernel) (pa_cons (pv 0) pa_nil)) pe_int)))
    (pss_cons (ps_set (i := 3) sc__law_changed.nd rfl (by first | exact Or.inl rfl | exact Or.inr rfl) (pe_ix ix_str pe_str (pe_op op_mod (pe_op op_fdivW (pv 1) pe_int) pe_int) (fun _ _ => rfl)))
    (pss_cons (ps_if (pt_cmpR op_eq (pe_op op_mod (pv 1) pe_int) pe_int (nomark _))
      (pss_one (ps_ret (pe_op op_add_str (pe_op op_add_str (pe_slice sl_str (pv 0) po_none (po_some (pv 2))) (pv 3)) (pe_slice sl_str (pv 0) (po_some (pv 2)) po_none))))
      pss_nil)
    (pss_cons (ps_if (pt_cmpR op_eq (pe_op op_mod (pv 1) pe_int) pe_int (nomark _))
      (pss_one (ps_ret (pe_op op_add_str (pe_slice sl_str (pv 0) po_none (po_some (pv 2))) (pe_slice sl_str (pv 0) (po_some (pe_op op_add (pv 2) pe_int)) po_none))))
      pss_nil)
    (pss_one (ps_ret (pe_op op_add_str (pe_op op_add_str (pe_slice sl_str (pv 0) po_none (po_some (pv 2))) (pv 3)) (pe_slice sl_str (pv 0) (po_some (pe_op op_add (pv 2) pe_int)) po_none)))))))), ?_⟩
  have hsz : (16777216 : Nat) ≤ sizeLine := by decide
  obtain ⟨at0, hat⟩ : ∃ x, n / 3 % ((w.length : Int) + 1) = x := ⟨_, rfl⟩
  have a0 : 0 ≤ at0 := by rw [← hat]; exact Int.emod_nonneg _ (by omega)
  have a1 : at0 < (w.length : Int) + 1 := by rw [← hat]; exact Int.emod_lt_of_pos _ (by omega)
  refine sq (st_set (R := I at0) c (ev_is (ev_I (ev_I (ev_var rfl) ev_c (by walk_at "y")) (ev_I0 (ev_cb (ea_cons (ev_var rfl) ea_nil) (rc_lenT2 (by omega))) ev_c) (show (0 : Int) < (w.length : Int) + 1 by omega)) (congrArg (fun n : Int => I n) hat)) (fun F H σ c _ => ?_))
  obtain ⟨s1, s2, s3⟩ := sg18_ok
  obtain ⟨ix, hix⟩ : ∃ x, n / 1000 % 18 = x := ⟨_, rfl⟩
  have i0 : 0 ≤ ix := by rw [← hix]; exact Int.emod_nonneg _ (by decide)
  have i1 : ix < 18 := by rw [← hix]; exact Int.emod_lt_of_pos _ (by decide)
  obtain ⟨j, rfl⟩ := Int.eq_ofNat_of_zero_le i0
  have hj : j < sg18.cps.toList.length := by omega
  obtain ⟨k, hk⟩ : ∃ k, sg18.cps.toList[j]? = some k := ⟨_, List.getElem?_eq_getElem hj⟩
  have hkk := s2 k (List.mem_of_getElem? hk)
  refine sq (st_set (R := S ⟨#[k]⟩) c (ev_ixS (z := sg18) (i := (j : Int)) ev_c (ev_is (ev_I (ev_I (ev_var rfl) ev_c (by walk_at "y")) ev_c (by decide)) (congrArg (fun n : Int => I n) hix)) ⟨by omega, atI_nat hk⟩) (fun F H σ c _ => ?_))
  have c : Ctx _ F H σ [some (S w), some (I n), some (I at0), some (S ⟨#[k]⟩)] [] := c
  have ok1 : PyData.strOk (⟨#[k]⟩ : Str) = true := okS_one hkk
  have len1 : (⟨#[k]⟩ : Str).length = 1 := rfl
  obtain ⟨m, rfl⟩ := Int.eq_ofNat_of_zero_le a0
  have ln1 : (cutS w none (some (m : Int))).length ≤ m := by
    show ((w.cps.toList.drop 0).take (min m w.length - 0)).toArray.size ≤ m
    rw [List.size_toArray, List.length_take]; omega
  have ln2 : (cutS w (some (m : Int)) none).length ≤ w.length - m := by
    show ((w.cps.toList.drop (min m w.length)).take (w.length - min m w.length)).toArray.size ≤ _
    rw [List.size_toArray, List.length_take]; omega
  have ln3 : (cutS w (some ((m : Int) + 1)) none).length ≤ w.length - m := by
    show ((w.cps.toList.drop (min (m + 1) w.length)).take (w.length - min (m + 1) w.length)).toArray.size ≤ _
    rw [List.size_toArray, List.length_take]; omega
  refine sq (st_if (b := decide (n % 3 = 0)) c (et_test (ev_eqI (ev_I (ev_var rfl) ev_c (by decide)) ev_c)) (fun hb F H c _ => ?_) (fun hb F H c _ => nxt ?_))
  · refine st_ret c (ev_addS (ev_addS (ev_slS (ev_var rfl) eo_none (eo_some (ev_var rfl)) (by omega)) (ev_var rfl) (by rw [len1]; omega)) (ev_slS (ev_var rfl) (eo_some (ev_var rfl)) eo_none (by omega)) (by rw [str_len, len1]; omega)) (fun v F' H' c _ r => hq v F' H' c.ext c.sub ⟨_, ⟨?_, okS_cat (okS_cat (okS_cut hok) ok1) (okS_cut hok)⟩, r⟩)
    rw [str_len, str_len, len1]; omega
  refine sq (st_if (b := decide (n % 3 = 1)) c (et_test (ev_eqI (ev_I (ev_var rfl) ev_c (by decide)) ev_c)) (fun hb F H c _ => ?_) (fun hb F H c _ => nxt ?_))
  · refine st_ret c (ev_addS (ev_slS (ev_var rfl) eo_none (eo_some (ev_var rfl)) (by omega)) (ev_slS (ev_var rfl) (eo_some (ev_I0 (ev_var rfl) ev_c)) eo_none (by omega)) (by omega)) (fun v F' H' c _ r => hq v F' H' c.ext c.sub ⟨_, ⟨?_, okS_cat (okS_cut hok) (okS_cut hok)⟩, r⟩)
    rw [str_len]; omega
  refine st_ret c (ev_addS (ev_addS (ev_slS (ev_var rfl) eo_none (eo_some (ev_var rfl)) (by omega)) (ev_var rfl) (by rw [len1]; omega)) (ev_slS (ev_var rfl) (eo_some (ev_I0 (ev_var rfl) ev_c)) eo_none (by omega)) (by rw [str_len, len1]; omega)) (fun v F' H' c _ r => hq v F' H' c.ext c.sub ⟨_, ⟨?_, okS_cat (okS_cat (okS_cut hok) ok1) (okS_cut hok)⟩, r⟩)
  rw [str_len, str_len, len1]; omega
def sp_law (K : PySem.W.Frag) (C : Str → Addr) : Sp := LawSp K
theorem ok_law (T : G K mg C) (D__law_row : Dn P w K mg base 2 "_law_row" ["_law_script"] (sp__law_row K C)) (D_show_row : Dn P w K mg base 1 "show_row" ["row"] (sp_show_row K C)) (D__law_text : Dn P w K mg base 1 "_law_text" ["_law_row_here"] (sp__law_text K C)) (D__law_right : Dn P w K mg base 6 "_law_right" ["_law_text_here"] (sp__law_right K C)) (D__law_cell_at : Dn P w K mg base 1 "_law_cell_at" ["_law_script", "_law_k"] (sp__law_cell_at K C)) (D__law_spoilt : Dn P w K mg base 1 "_law_spoilt" ["_law_row_here", "_law_cell"] (sp__law_spoilt K C)) (D__law_changed : Dn P w K mg base 1 "_law_changed" ["_law_text_here", "_law_cell"] (sp__law_changed K C)) : Dn P w K mg base 7 "law" ["_law_script"] (sp_law K C) := by
  refine T.d_law.ok sc_law (by first | exact CtF.len (fun _ => rfl) | exact CtE.len (fun _ => rfl) | exact CtR.len (fun _ => rfl) | exact CtM.len (fun _ => rfl) | exact CtO.len (fun _ => rfl) | exact CtRO.len (fun _ => rfl) | exact CtX.len (fun _ => rfl) | exact CtMX.len (fun _ => rfl) | exact CtME.len (fun _ => rfl) | exact CtG.len (fun _ => rfl) | exact CtOX.len (fun _ => rfl) | exact CtV.len (fun _ => rfl) | exact spOr_len (by first | exact CtR.len (fun _ => rfl) | exact CtM.len (fun _ => rfl) | exact CtG.len (fun _ => rfl) | exact CtF.len (fun _ => rfl) | exact CtRO.len (fun _ => rfl)) (by first | exact CtRO.len (fun _ => rfl) | exact CtN.len (fun _ => rfl) | exact CtR.len (fun _ => rfl) | exact CtG.len (fun _ => rfl) | exact CtM.len (fun _ => rfl)) | exact sp_law_len) (fun f cdv A outer s H vs Q E hr h => ?_)
  obtain ⟨ns, F, sFH, ha, hp, hq⟩ := h
  have c := ctx_start (N := ["_law_script", "_law_row_here", "_law_handed", "_law_text_here", "_law_cell", "_law_odd"]) sFH ha
  have c : Ctx ⟨F, H, [], F, []⟩ F H _ [some (Ls K (ns.map fun n => I n)), none, none, none, none, none] [] := c
  refine ⟨_, (pss_cons (ps_set (i := 1) sc_law.nd rfl (by first | exact Or.inl rfl | exact Or.inr rfl) (pe_d D__law_row (hr.mono (by decide)) (by rfl) (pa_cons (pv 0) pa_nil)))
    (pss_cons (ps_set (i := 2) sc_law.nd rfl (by first | exact Or.inl rfl | exact Or.inr rfl) (pe_callTy call_list_of (by rfl) T.b_list (by decide +kernel) (pa_cons (pv 1) pa_nil)))
    (pss_cons (ps_set (i := 3) sc_law.nd rfl (by first | exact Or.inl rfl | exact Or.inr rfl) (pe_d D_show_row (hr.mono (by decide)) (by rfl) (pa_cons (pv 2) pa_nil)))
    (pss_cons (ps_if (PW.pt (pw_or (pt_not (pt_val (pe_callB call_isi (by rfl) T.b_isinstance (by decide +kernel) (pa_cons (pv 3) (pa_cons (pe_bltn (by rfl) T.b_str (u := .type "str") (v := .ty "str") (by decide +kernel) rfl) pa_nil))))) (pw_or (pt_cmpR op_ne (pv 3) (pe_d D__law_text (hr.mono (by decide)) (by rfl) (pa_cons (pv 1) pa_nil)) (nomark _)) (pw_or (pt_cmpR (op_neD hr.units) (pv 2) (pv 1) (nomark _)) (pw_or1 (pt_not (pt_val (pe_d D__law_right (hr.mono (by decide)) (by rfl) (pa_cons (pv 3) pa_nil)))))))))
      (pss_one (ps_ret pe_bl))
      pss_nil)
    (pss_cons (ps_set (i := 4) sc_law.nd rfl (by first | exact Or.inl rfl | exact Or.inr rfl) (pe_d D__law_cell_at (hr.mono (by decide)) (by rfl) (pa_cons (pv 0) (pa_cons pe_int pa_nil))))
    (pss_cons (ps_if (pt_not (pt_val (pe_d D__law_right (hr.mono (by decide)) (by rfl) (pa_cons (pe_d D__law_text (hr.mono (by decide)) (by rfl) (pa_cons (pe_d D__law_spoilt (hr.mono (by decide)) (by rfl) (pa_cons (pv 1) (pa_cons (pv 4) pa_nil))) pa_nil)) pa_nil))))
      (pss_one (ps_ret pe_bl))
      pss_nil)
    (pss_cons (ps_for PassesOwn.never rfl (pi_list (pe_slice sl_list (pv 0) po_none (po_some pe_int))) (pg_name (i := 4) sc_law.nd rfl (by first | exact Or.inl rfl | exact Or.inr rfl))
      (pss_cons (ps_set (i := 3) sc_law.nd rfl (by first | exact Or.inl rfl | exact Or.inr rfl) (pe_d D__law_changed (hr.mono (by decide)) (by rfl) (pa_cons (pv 3) (pa_cons (pe_op op_fdivW (pv 4) pe_int) pa_nil))))
      (pss_one (ps_if (pt_not (pt_val (pe_d D__law_right (hr.mono (by decide)) (by rfl) (pa_cons (pv 3) pa_nil))))
        (pss_one (ps_ret pe_bl))
        pss_nil))))
    (pss_cons (ps_set (i := 5) sc_law.nd rfl (by first | exact Or.inl rfl | exact Or.inr rfl) (pe_lst (pa_cons pe_str (pa_cons pe_str (pa_cons pe_str (pa_cons pe_str (pa_cons pe_str (pa_cons pe_str (pa_cons pe_str (pa_cons pe_str (pa_cons pe_str (pa_cons pe_str pa_nil))))))))))))
    (pss_one (ps_ret (pe_d D__law_right (hr.mono (by decide)) (by rfl) (pa_cons (pe_ix (show IxR _ (rIxL K) from ix_list) (pv 5) (pe_op op_mod (pe_d D__law_cell_at (hr.mono (by decide)) (by rfl) (pa_cons (pv 0) (pa_cons pe_int pa_nil))) pe_int) (fun _ _ => rfl)) pa_nil)))))))))))), ?_⟩
  refine sq (st_set c (ev_call (_) (ea_cons (ev_var rfl) ea_nil) (by exact trivial)) (fun F H σ c _ => ?_))
  obtain ⟨row, ⟨hl, hg⟩, c⟩ := c.opn 1 rfl
  have c : Ctx _ F H σ [some (Ls K (ns.map fun n => I n)), some (Ls K (row.map (Pc K))), none, none, none, none] [] := c
  have hl100 : row.length ≤ 100 := Nat.le_trans hl (by decide)
  obtain ⟨tl, tok⟩ := text_all hl100 hg
  refine sq (st_set (R := Ls K (row.map (Pc K))) c (ev_listLk (K := K) (lk (ev_var rfl))) (fun F H σ c _ => ?_))
  refine sq (st_set (R := S (textW (row.map pieL))) c (ev_call row (ea_cons (ev_var rfl) ea_nil) ⟨hl100, hg⟩) (fun F H σ c _ => ?_))
  have c : Ctx _ F H σ [some (Ls K (ns.map fun n => I n)), some (Ls K (row.map (Pc K))), some (Ls K (row.map (Pc K))), some (S (textW (row.map pieL))), none, none] [] := c
  refine sq (st_if (b := false) c (et_or (a := false) (b := false) (et_is (et_not (et_B (ev_cb (ea_cons (ev_var rfl) (ea_cons ev_c ea_nil)) (rc_isi (.ty _) ty_str (kit_ty (r := true) rfl))))) rfl) (fun _ => et_or (a := false) (b := false) (et_is (et_test (ev_neS (ev_var rfl) (ev_call row (ea_cons (ev_var rfl) ea_nil) ⟨hl100, hg⟩))) (by simp)) (fun _ => et_or (a := false) (b := false) (et_is (et_test (ev_neK (x := row) (y := row) (kd_list (kd_pc (K := K))) (ev_var rfl) (ev_var rfl))) (by simp)) (fun _ => et_is (et_not (et_B (ev_call (textW (row.map pieL)) (ea_cons (ev_var rfl) ea_nil) ⟨by omega, tok⟩))) rfl)))) (fun hb F H c _ => (by cases hb)) (fun hb F H c _ => nxt ?_))
  refine sq (st_set (R := I (cell ns 0)) c (ev_call (ns, (0 : Int)) (ea_cons (ev_var rfl) (ea_cons ev_c ea_nil)) (by walk_at "y")) (fun F H σ c _ => ?_))
  have c : Ctx _ F H σ [some (Ls K (ns.map fun n => I n)), some (Ls K (row.map (Pc K))), some (Ls K (row.map (Pc K))), some (S (textW (row.map pieL))), some (I (cell ns 0)), none] [] := c
  refine sq (st_if (b := false) c (et_is (et_not (et_B (ev_callXs (P := fun x : Str => x.length ≤ 10000 ∧ PyData.strOk x = true) (Rb := fun x => S x) (R := B true) (ev_sub (ev_callXt (ev_call (row, cell ns 0) (ea_cons (ev_var rfl) (ea_cons (ev_var rfl) ea_nil)) ⟨hl, hg⟩) (fun a => rfl) (fun a h => h)) (fun F v ⟨b, hb, r⟩ => by
    obtain ⟨b1, b2⟩ := hb
    obtain ⟨t1, t2⟩ := text_all b1 b2
    exact ⟨textW (b.map pieL), ⟨by omega, t2⟩, r⟩)) (fun a => rfl) (fun a h => h) (fun a => rfl)))) rfl) (fun hb F H c _ => (by cases hb)) (fun hb F H c _ => nxt ?_))
  refine sq (st_forS (xs := ns.take 3) (f := fun n => I n) (fun i : Str × Option As => [some (Ls K (ns.map fun n => I n)), some (Ls K (row.map (Pc K))), some (Ls K (row.map (Pc K))), some (S i.1), i.2, none]) (fun y i => [some (Ls K (ns.map fun n => I n)), some (Ls K (row.map (Pc K))), some (Ls K (row.map (Pc K))), some (S i.1), some (I y), none]) (fun _ => []) (fun j i => (i.1.length ≤ 6500 + j ∧ j ≤ 3) ∧ PyData.strOk i.1 = true) (textW (row.map pieL), some (I (cell ns 0))) c (src_l (ev_ls2 (Rs' := (ns.take 3).map fun n => I n) (ev_slLk (lk (ev_var rfl)) eo_none (eo_some ev_c)) (cutA_to (k := 3)))) ⟨⟨tl, by decide⟩, tok⟩ (fun x i => gt_name) ?_ ?_)
  · rintro j y ⟨x, o⟩ G1 F H σ M hk ⟨⟨h1, h2⟩, h3⟩ c hM
    dsimp only at h1 h2 h3 c
    have hjl := (List.getElem?_eq_some_iff.mp hk).1
    rw [List.length_take] at hjl
    refine sq (st_set c (ev_call (x, y / 2) (ea_cons (ev_var rfl) (ea_cons (ev_I (ev_var rfl) ev_c (by walk_at "y")) ea_nil)) ⟨by dsimp only; omega, h3⟩) (fun F H σ c _ => ?_))
    obtain ⟨x2, ⟨g1, g2⟩, c⟩ := c.opn 3 rfl
    dsimp only at g1
    have c : Ctx _ F H σ [some (Ls K (ns.map fun n => I n)), some (Ls K (row.map (Pc K))), some (Ls K (row.map (Pc K))), some (S x2), some (I y), none] [] := c
    refine st_if (b := false) c (et_is (et_not (et_B (ev_call x2 (ea_cons (ev_var rfl) ea_nil) ⟨by omega, g2⟩))) rfl) (fun hb F H c _ => (by cases hb)) (fun hb F H c _ => nxt ?_)
    exact hM (x2, some (I y)) F H σ ⟨⟨by dsimp only; omega, by omega⟩, g2⟩ c
  rintro ⟨x, o⟩ F H σ _ c
  refine sq (st_set (R := Ls K (odd82.map fun x => S x)) c (ev_ls2 (Rs' := odd82.map fun x => S x) (ev_lst (K := K) (ea_cons ev_c (ea_cons ev_c (ea_cons ev_c (ea_cons ev_c (ea_cons ev_c (ea_cons ev_c (ea_cons ev_c (ea_cons ev_c (ea_cons ev_c (ea_cons ev_c ea_nil)))))))))) (show 10 ≤ 1000 by decide)) rfl) (fun F H σ c _ => ?_))
  have c : Ctx _ F H σ [some (Ls K (ns.map fun n => I n)), some (Ls K (row.map (Pc K))), some (Ls K (row.map (Pc K))), some (S x), o, some (Ls K (odd82.map fun x => S x))] [] := c
  obtain ⟨ix, hix⟩ : ∃ ix, cell ns 1 % 10 = ix := ⟨_, rfl⟩
  have i0 : 0 ≤ ix := by omega
  have i1 : ix < 10 := by omega
  obtain ⟨j, rfl⟩ := Int.eq_ofNat_of_zero_le i0
  have hj : j < odd82.length := by show j < 10; omega
  have hw := odd82_ok _ (List.getElem_mem hj)
  refine st_ret c (ev_call odd82[j] (ea_cons (ev_ixLk (K := K) (lk (ev_var rfl)) (ev_is (ev_I (ev_call (ns, (1 : Int)) (ea_cons (ev_var rfl) (ea_cons ev_c ea_nil)) (by walk_at "y")) ev_c (by walk_at "y")) (congrArg (fun n : Int => I n) hix)) (atI_nat (by rw [List.getElem?_map, List.getElem?_eq_getElem hj]; rfl))) ea_nil) hw) (fun v F' H' c _ r => hq v F' H' c.ext c.sub r)
end
/-! the end -/
theorem all_mk {l : PySem.W.OpenLaw} {w : World} {K : PySem.W.Frag} {h : Heap} {mg : Str → Option Value} {fa : Addr} (X : K.In h) (G0 : h.Ns mainGlobals mg) (hfa : mg "law" = some (.ref fa)) {C_NoText : Addr} {tk_FIGURES : Tok} {tk_GREATEST : Tok} {tk_LATEST : Tok} {tk_MANY : Tok} {tk_SENDERS : Tok} {C_BadRow : Addr} {nm_BadRow q_BadRow : Str} {N_BadRow : Addr} {bs_BadRow bm_BadRow sub_BadRow : List Value} {sn_BadRow : List Str} {ab_BadRow : Bool} {col_BadRow : Option Bool} {dd_BadRow : Option Addr} {m0_BadRow m1_BadRow m2_BadRow m3_BadRow m5_BadRow : Option Value} {f_BadRow___init__ : Addr} {od90 an90 : Option Addr} {sl90 : Array (Option Value)} {oc90 kV90 dc90 pm90 cd90 ct90 : Value} {f_is_good : Addr} {od0 an0 : Option Addr} {sl0 : Array (Option Value)} {oc0 kV0 dc0 pm0 cd0 ct0 : Value} {f_checked : Addr} {od1 an1 : Option Addr} {sl1 : Array (Option Value)} {oc1 kV1 dc1 pm1 cd1 ct1 : Value} {f_is_number : Addr} {od2 an2 : Option Addr} {sl2 : Array (Option Value)} {oc2 kV2 dc2 pm2 cd2 ct2 : Value} {f_number_of : Addr} {od3 an3 : Option Addr} {sl3 : Array (Option Value)} {oc3 kV3 dc3 pm3 cd3 ct3 : Value} {f_show_row : Addr} {od4 an4 : Option Addr} {sl4 : Array (Option Value)} {oc4 kV4 dc4 pm4 cd4 ct4 : Value} {f_read_piece : Addr} {od5 an5 : Option Addr} {sl5 : Array (Option Value)} {oc5 kV5 dc5 pm5 cd5 ct5 : Value} {f_read_row : Addr} {od6 an6 : Option Addr} {sl6 : Array (Option Value)} {oc6 kV6 dc6 pm6 cd6 ct6 : Value} {f__law_cell_at : Addr} {od7 an7 : Option Addr} {sl7 : Array (Option Value)} {oc7 kV7 dc7 pm7 cd7 ct7 : Value} {f__law_stream : Addr} {od8 an8 : Option Addr} {sl8 : Array (Option Value)} {oc8 kV8 dc8 pm8 cd8 ct8 : Value} {f__law_row : Addr} {od9 an9 : Option Addr} {sl9 : Array (Option Value)} {oc9 kV9 dc9 pm9 cd9 ct9 : Value} {f__law_spoilt : Addr} {od10 an10 : Option Addr} {sl10 : Array (Option Value)} {oc10 kV10 dc10 pm10 cd10 ct10 : Value} {f__law_text : Addr} {od11 an11 : Option Addr} {sl11 : Array (Option Value)} {oc11 kV11 dc11 pm11 cd11 ct11 : Value} {f__law_number : Addr} {od12 an12 : Option Addr} {sl12 : Array (Option Value)} {oc12 kV12 dc12 pm12 cd12 ct12 : Value} {f__law_due : Addr} {od13 an13 : Option Addr} {sl13 : Array (Option Value)} {oc13 kV13 dc13 pm13 cd13 ct13 : Value} {f__law_bad : Addr} {od14 an14 : Option Addr} {sl14 : Array (Option Value)} {oc14 kV14 dc14 pm14 cd14 ct14 : Value} {f__law_read : Addr} {od15 an15 : Option Addr} {sl15 : Array (Option Value)} {oc15 kV15 dc15 pm15 cd15 ct15 : Value} {f__law_kinds : Addr} {od16 an16 : Option Addr} {sl16 : Array (Option Value)} {oc16 kV16 dc16 pm16 cd16 ct16 : Value} {f__law_right : Addr} {od17 an17 : Option Addr} {sl17 : Array (Option Value)} {oc17 kV17 dc17 pm17 cd17 ct17 : Value} {f__law_changed : Addr} {od18 an18 : Option Addr} {sl18 : Array (Option Value)} {oc18 kV18 dc18 pm18 cd18 ct18 : Value} {f_law : Addr} {od19 an19 : Option Addr} {sl19 : Array (Option Value)} {oc19 kV19 dc19 pm19 cd19 ct19 : Value}
    (z_all : PySem.W.nsIn K mainGlobals "all" = some none)
    (z_enumerate : PySem.W.nsIn K mainGlobals "enumerate" = some none)
    (z_int : PySem.W.nsIn K mainGlobals "int" = some none)
    (z_isinstance : PySem.W.nsIn K mainGlobals "isinstance" = some none)
    (z_len : PySem.W.nsIn K mainGlobals "len" = some none)
    (z_list : PySem.W.nsIn K mainGlobals "list" = some none)
    (z_max : PySem.W.nsIn K mainGlobals "max" = some none)
    (z_range : PySem.W.nsIn K mainGlobals "range" = some none)
    (z_str : PySem.W.nsIn K mainGlobals "str" = some none)
    (z_tuple : PySem.W.nsIn K mainGlobals "tuple" = some none)
    (x1_NoText : PySem.W.nsIn K mainGlobals "NoText" = some (some (.ref C_NoText))) (x2_NoText : PySem.W.excIn K C_NoText [.type "ValueError", .type "Exception", .type "BaseException", .type "object"] "ValueError.__new__" = true) (x3_NoText : PySem.W.keepIn K (.ref C_NoText) = true) (x4_NoText : PySem.W.subIn K (.ref C_NoText) (.type "BaseException") = some true) (x5_NoText : PySem.W.typeIn K (.ref C_NoText) = some (.type "type")) (x6_NoText : PySem.W.isClsIn K C_NoText = true) (x7_NoText : PySem.W.subIn K (.ref C_NoText) (.ref C_NoText) = some true)
    (gg_FIGURES : PySem.W.nsIn K mainGlobals "FIGURES" = some (some (.str "0123456789" tk_FIGURES)))
    (gg_GREATEST : PySem.W.nsIn K mainGlobals "GREATEST" = some (some (.int 1000000 tk_GREATEST)))
    (gg_LATEST : PySem.W.nsIn K mainGlobals "LATEST" = some (some (.int 1000000000000 tk_LATEST)))
    (gg_MANY : PySem.W.nsIn K mainGlobals "MANY" = some (some (.int 60 tk_MANY)))
    (gg_SENDERS : PySem.W.nsIn K mainGlobals "SENDERS" = some (some (.int 12 tk_SENDERS)))
    (h1_BadRow : PySem.W.nsIn K mainGlobals "BadRow" = some (some (.ref C_BadRow)))
    (h1_NoText : PySem.W.nsIn K mainGlobals "NoText" = some (some (.ref C_NoText)))
    (o1_BadRow : K.lookup C_BadRow = some (excClassObj nm_BadRow q_BadRow C_BadRow N_BadRow bs_BadRow bm_BadRow true sn_BadRow sub_BadRow ab_BadRow col_BadRow dd_BadRow m0_BadRow m1_BadRow m2_BadRow m3_BadRow m5_BadRow "ValueError.__new__")) (o2_BadRow : PySem.HandSPX.refsVE bm_BadRow = true) (o3_BadRow : PySem.W.findIn K (.ref C_BadRow) "__setattr__" = some (some (.builtin "object.__setattr__"))) (o4_BadRow : PySem.W.subIn K (.ref C_BadRow) (.type "BaseException") = some true) (o5_BadRow : PySem.W.typeIn K (.ref C_BadRow) = some (.type "type")) (o6_BadRow : PySem.W.keepIn K (.ref C_BadRow) = true)
    (a_BadRow___init__ : PySem.W.findIn K (.ref C_BadRow) "__init__" = some (some (.ref f_BadRow___init__))) (i_BadRow___init__ : PySem.W.typeIn K (.ref f_BadRow___init__) = some (.type "function")) (l_BadRow___init__ : K.lookup f_BadRow___init__ = some ⟨oc90, od90, .func (PySem.W.fnOf "__init__" "BadRow.__init__" (defArgs s_BadRow___init__) (defBody s_BadRow___init__) (defScope s_BadRow___init__) .none kV90 dc90 pm90 an90 cd90 ct90), sl90⟩) (c_BadRow___init__ : PySem.W.codeIn K cd90 "BadRow.__init__" = true) (k_BadRow___init__ : PySem.W.keepIn K (.ref f_BadRow___init__) = true)
    (m1_BadRow_place : PySem.W.findIn K (.ref C_BadRow) "place" = some none)
    (v1_BadRow : PySem.W.findIn K (.ref C_BadRow) "__getattribute__" = some (some (.builtin "BaseException.__getattribute__"))) (v2_BadRow : PySem.W.findIn K (.ref C_BadRow) "__getattr__" = some none) (v3_BadRow : PySem.W.subIn K (.ref C_BadRow) (.type "BaseException") = some true) (v4_BadRow : PySem.W.hasDictIn K C_BadRow = true)
    (v1_NoText : PySem.W.findIn K (.ref C_NoText) "__getattribute__" = some (some (.builtin "BaseException.__getattribute__"))) (v2_NoText : PySem.W.findIn K (.ref C_NoText) "__getattr__" = some none) (v3_NoText : PySem.W.subIn K (.ref C_NoText) (.type "BaseException") = some true) (v4_NoText : PySem.W.hasDictIn K C_NoText = true)
    (v5_NoText : PySem.W.findIn K (.ref C_NoText) "__class__" = some (some (.builtin "object.__class__"))) (v6_NoText : PySem.W.specialIn K (.builtin "object.__class__") "__get__" = some (some (.builtin "getset_descriptor.__get__"))) (v7_NoText : PySem.W.takesIn K (.builtin "object.__class__") = some true) (v8_NoText : PySem.W.mroIn K C_NoText (.type "object") = some true)
    (kk_NoText_BadRow : PySem.W.kitOne K (.ref C_NoText) (.ref C_BadRow) = some false)
    (nq_BadRow_NoText : PySem.W.exmOne K (.ref C_BadRow) (.ref C_NoText) = some false)
    (pp_BadRow_BadRow : PySem.W.exmOne K (.ref C_BadRow) (.ref C_BadRow) = some true)
    (pp_NoText_NoText : PySem.W.exmOne K (.ref C_NoText) (.ref C_NoText) = some true)
    (a_is_good : PySem.W.nsIn K mainGlobals "is_good" = some (some (.ref f_is_good))) (l_is_good : K.lookup f_is_good = some ⟨oc0, od0, .func (PySem.W.fnOf "is_good" "is_good" (defArgs s_is_good) (defBody s_is_good) (defScope s_is_good) .none kV0 dc0 pm0 an0 cd0 ct0), sl0⟩) (c_is_good : PySem.W.codeIn K cd0 "is_good" = true) (k_is_good : PySem.W.keepIn K (.ref f_is_good) = true)
    (a_checked : PySem.W.nsIn K mainGlobals "checked" = some (some (.ref f_checked))) (l_checked : K.lookup f_checked = some ⟨oc1, od1, .func (PySem.W.fnOf "checked" "checked" (defArgs s_checked) (defBody s_checked) (defScope s_checked) .none kV1 dc1 pm1 an1 cd1 ct1), sl1⟩) (c_checked : PySem.W.codeIn K cd1 "checked" = true) (k_checked : PySem.W.keepIn K (.ref f_checked) = true)
    (a_is_number : PySem.W.nsIn K mainGlobals "is_number" = some (some (.ref f_is_number))) (l_is_number : K.lookup f_is_number = some ⟨oc2, od2, .func (PySem.W.fnOf "is_number" "is_number" (defArgs s_is_number) (defBody s_is_number) (defScope s_is_number) .none kV2 dc2 pm2 an2 cd2 ct2), sl2⟩) (c_is_number : PySem.W.codeIn K cd2 "is_number" = true) (k_is_number : PySem.W.keepIn K (.ref f_is_number) = true)
    (a_number_of : PySem.W.nsIn K mainGlobals "number_of" = some (some (.ref f_number_of))) (l_number_of : K.lookup f_number_of = some ⟨oc3, od3, .func (PySem.W.fnOf "number_of" "number_of" (defArgs s_number_of) (defBody s_number_of) (defScope s_number_of) .none kV3 dc3 pm3 an3 cd3 ct3), sl3⟩) (c_number_of : PySem.W.codeIn K cd3 "number_of" = true) (k_number_of : PySem.W.keepIn K (.ref f_number_of) = true)
    (a_show_row : PySem.W.nsIn K mainGlobals "show_row" = some (some (.ref f_show_row))) (l_show_row : K.lookup f_show_row = some ⟨oc4, od4, .func (PySem.W.fnOf "show_row" "show_row" (defArgs s_show_row) (defBody s_show_row) (defScope s_show_row) .none kV4 dc4 pm4 an4 cd4 ct4), sl4⟩) (c_show_row : PySem.W.codeIn K cd4 "show_row" = true) (k_show_row : PySem.W.keepIn K (.ref f_show_row) = true)
    (a_read_piece : PySem.W.nsIn K mainGlobals "read_piece" = some (some (.ref f_read_piece))) (l_read_piece : K.lookup f_read_piece = some ⟨oc5, od5, .func (PySem.W.fnOf "read_piece" "read_piece" (defArgs s_read_piece) (defBody s_read_piece) (defScope s_read_piece) .none kV5 dc5 pm5 an5 cd5 ct5), sl5⟩) (c_read_piece : PySem.W.codeIn K cd5 "read_piece" = true) (k_read_piece : PySem.W.keepIn K (.ref f_read_piece) = true)
    (a_read_row : PySem.W.nsIn K mainGlobals "read_row" = some (some (.ref f_read_row))) (l_read_row : K.lookup f_read_row = some ⟨oc6, od6, .func (PySem.W.fnOf "read_row" "read_row" (defArgs s_read_row) (defBody s_read_row) (defScope s_read_row) .none kV6 dc6 pm6 an6 cd6 ct6), sl6⟩) (c_read_row : PySem.W.codeIn K cd6 "read_row" = true) (k_read_row : PySem.W.keepIn K (.ref f_read_row) = true)
    (a__law_cell_at : PySem.W.nsIn K mainGlobals "_law_cell_at" = some (some (.ref f__law_cell_at))) (l__law_cell_at : K.lookup f__law_cell_at = some ⟨oc7, od7, .func (PySem.W.fnOf "_law_cell_at" "_law_cell_at" (defArgs s__law_cell_at) (defBody s__law_cell_at) (defScope s__law_cell_at) .none kV7 dc7 pm7 an7 cd7 ct7), sl7⟩) (c__law_cell_at : PySem.W.codeIn K cd7 "_law_cell_at" = true) (k__law_cell_at : PySem.W.keepIn K (.ref f__law_cell_at) = true)
    (a__law_stream : PySem.W.nsIn K mainGlobals "_law_stream" = some (some (.ref f__law_stream))) (l__law_stream : K.lookup f__law_stream = some ⟨oc8, od8, .func (PySem.W.fnOf "_law_stream" "_law_stream" (defArgs s__law_stream) (defBody s__law_stream) (defScope s__law_stream) .none kV8 dc8 pm8 an8 cd8 ct8), sl8⟩) (c__law_stream : PySem.W.codeIn K cd8 "_law_stream" = true) (k__law_stream : PySem.W.keepIn K (.ref f__law_stream) = true)
    (a__law_row : PySem.W.nsIn K mainGlobals "_law_row" = some (some (.ref f__law_row))) (l__law_row : K.lookup f__law_row = some ⟨oc9, od9, .func (PySem.W.fnOf "_law_row" "_law_row" (defArgs s__law_row) (defBody s__law_row) (defScope s__law_row) .none kV9 dc9 pm9 an9 cd9 ct9), sl9⟩) (c__law_row : PySem.W.codeIn K cd9 "_law_row" = true) (k__law_row : PySem.W.keepIn K (.ref f__law_row) = true)
    (a__law_spoilt : PySem.W.nsIn K mainGlobals "_law_spoilt" = some (some (.ref f__law_spoilt))) (l__law_spoilt : K.lookup f__law_spoilt = some ⟨oc10, od10, .func (PySem.W.fnOf "_law_spoilt" "_law_spoilt" (defArgs s__law_spoilt) (defBody s__law_spoilt) (defScope s__law_spoilt) .none kV10 dc10 pm10 an10 cd10 ct10), sl10⟩) (c__law_spoilt : PySem.W.codeIn K cd10 "_law_spoilt" = true) (k__law_spoilt : PySem.W.keepIn K (.ref f__law_spoilt) = true)
    (a__law_text : PySem.W.nsIn K mainGlobals "_law_text" = some (some (.ref f__law_text))) (l__law_text : K.lookup f__law_text = some ⟨oc11, od11, .func (PySem.W.fnOf "_law_text" "_law_text" (defArgs s__law_text) (defBody s__law_text) (defScope s__law_text) .none kV11 dc11 pm11 an11 cd11 ct11), sl11⟩) (c__law_text : PySem.W.codeIn K cd11 "_law_text" = true) (k__law_text : PySem.W.keepIn K (.ref f__law_text) = true)
    (a__law_number : PySem.W.nsIn K mainGlobals "_law_number" = some (some (.ref f__law_number))) (l__law_number : K.lookup f__law_number = some ⟨oc12, od12, .func (PySem.W.fnOf "_law_number" "_law_number" (defArgs s__law_number) (defBody s__law_number) (defScope s__law_number) .none kV12 dc12 pm12 an12 cd12 ct12), sl12⟩) (c__law_number : PySem.W.codeIn K cd12 "_law_number" = true) (k__law_number : PySem.W.keepIn K (.ref f__law_number) = true)
    (a__law_due : PySem.W.nsIn K mainGlobals "_law_due" = some (some (.ref f__law_due))) (l__law_due : K.lookup f__law_due = some ⟨oc13, od13, .func (PySem.W.fnOf "_law_due" "_law_due" (defArgs s__law_due) (defBody s__law_due) (defScope s__law_due) .none kV13 dc13 pm13 an13 cd13 ct13), sl13⟩) (c__law_due : PySem.W.codeIn K cd13 "_law_due" = true) (k__law_due : PySem.W.keepIn K (.ref f__law_due) = true)
    (a__law_bad : PySem.W.nsIn K mainGlobals "_law_bad" = some (some (.ref f__law_bad))) (l__law_bad : K.lookup f__law_bad = some ⟨oc14, od14, .func (PySem.W.fnOf "_law_bad" "_law_bad" (defArgs s__law_bad) (defBody s__law_bad) (defScope s__law_bad) .none kV14 dc14 pm14 an14 cd14 ct14), sl14⟩) (c__law_bad : PySem.W.codeIn K cd14 "_law_bad" = true) (k__law_bad : PySem.W.keepIn K (.ref f__law_bad) = true)
    (a__law_read : PySem.W.nsIn K mainGlobals "_law_read" = some (some (.ref f__law_read))) (l__law_read : K.lookup f__law_read = some ⟨oc15, od15, .func (PySem.W.fnOf "_law_read" "_law_read" (defArgs s__law_read) (defBody s__law_read) (defScope s__law_read) .none kV15 dc15 pm15 an15 cd15 ct15), sl15⟩) (c__law_read : PySem.W.codeIn K cd15 "_law_read" = true) (k__law_read : PySem.W.keepIn K (.ref f__law_read) = true)
    (a__law_kinds : PySem.W.nsIn K mainGlobals "_law_kinds" = some (some (.ref f__law_kinds))) (l__law_kinds : K.lookup f__law_kinds = some ⟨oc16, od16, .func (PySem.W.fnOf "_law_kinds" "_law_kinds" (defArgs s__law_kinds) (defBody s__law_kinds) (defScope s__law_kinds) .none kV16 dc16 pm16 an16 cd16 ct16), sl16⟩) (c__law_kinds : PySem.W.codeIn K cd16 "_law_kinds" = true) (k__law_kinds : PySem.W.keepIn K (.ref f__law_kinds) = true)
    (a__law_right : PySem.W.nsIn K mainGlobals "_law_right" = some (some (.ref f__law_right))) (l__law_right : K.lookup f__law_right = some ⟨oc17, od17, .func (PySem.W.fnOf "_law_right" "_law_right" (defArgs s__law_right) (defBody s__law_right) (defScope s__law_right) .none kV17 dc17 pm17 an17 cd17 ct17), sl17⟩) (c__law_right : PySem.W.codeIn K cd17 "_law_right" = true) (k__law_right : PySem.W.keepIn K (.ref f__law_right) = true)
    (a__law_changed : PySem.W.nsIn K mainGlobals "_law_changed" = some (some (.ref f__law_changed))) (l__law_changed : K.lookup f__law_changed = some ⟨oc18, od18, .func (PySem.W.fnOf "_law_changed" "_law_changed" (defArgs s__law_changed) (defBody s__law_changed) (defScope s__law_changed) .none kV18 dc18 pm18 an18 cd18 ct18), sl18⟩) (c__law_changed : PySem.W.codeIn K cd18 "_law_changed" = true) (k__law_changed : PySem.W.keepIn K (.ref f__law_changed) = true)
    (a_law : PySem.W.nsIn K mainGlobals "law" = some (some (.ref f_law))) (l_law : K.lookup f_law = some ⟨oc19, od19, .func (PySem.W.fnOf "law" "law" (defArgs s_law) (defBody s_law) (defScope s_law) .none kV19 dc19 pm19 an19 cd19 ct19), sl19⟩) (c_law : PySem.W.codeIn K cd19 "law" = true) (k_law : PySem.W.keepIn K (.ref f_law) = true) :
    ∃ fd : FuncData, (∀ (s : Shared) (v : Value), BindsTo s fd ⟨[v], []⟩ [("_law_script", v)]) ∧ ∀ base : Heap, K.In base → base.Ns mainGlobals mg → FnOk l.prog w K mg base (L2N.CX l.prog w) 7 fa fd ["_law_script"] (LawSp K) := by
  have e := hfa.symm.trans (PySem.W.mg_of X G0 a_law)
  cases e
  have T : G K mg (fun x => if x = ("BadRow" : Str) then C_BadRow else if x = ("NoText" : Str) then C_NoText else 0) := { b_all := PySem.W.mg_none_of X G0 z_all, b_enumerate := PySem.W.mg_none_of X G0 z_enumerate, b_int := PySem.W.mg_none_of X G0 z_int, b_isinstance := PySem.W.mg_none_of X G0 z_isinstance, b_len := PySem.W.mg_none_of X G0 z_len, b_list := PySem.W.mg_none_of X G0 z_list, b_max := PySem.W.mg_none_of X G0 z_max, b_range := PySem.W.mg_none_of X G0 z_range, b_str := PySem.W.mg_none_of X G0 z_str, b_tuple := PySem.W.mg_none_of X G0 z_tuple, x_NoText := ⟨PySem.W.mg_of X G0 x1_NoText, x2_NoText, x3_NoText, x4_NoText, x5_NoText, x6_NoText, x7_NoText⟩, u_FIGURES := ⟨_, PySem.W.mg_of X G0 gg_FIGURES⟩, g_GREATEST := ⟨_, PySem.W.mg_of X G0 gg_GREATEST⟩, g_LATEST := ⟨_, PySem.W.mg_of X G0 gg_LATEST⟩, g_MANY := ⟨_, PySem.W.mg_of X G0 gg_MANY⟩, g_SENDERS := ⟨_, PySem.W.mg_of X G0 gg_SENDERS⟩, h_BadRow := PySem.W.mg_of X G0 h1_BadRow, h_NoText := PySem.W.mg_of X G0 h1_NoText, d_BadRow___init__ := te_mk X G0 h1_BadRow ⟨⟨_, _, _, _, _, _, _, _, _, _, _, _, _, _, _, o1_BadRow, o2_BadRow⟩, o3_BadRow, o4_BadRow, o5_BadRow, o6_BadRow⟩ a_BadRow___init__ i_BadRow___init__ l_BadRow___init__ c_BadRow___init__ k_BadRow___init__ (fun _ _ _ _ _ _ us hl => match us, hl with | [_, _], _ => rfl), m_BadRow_place := m1_BadRow_place, f_BadRow := ⟨v1_BadRow, v2_BadRow, v3_BadRow, v4_BadRow⟩, i_NoText := ⟨v1_NoText, v2_NoText, v3_NoText, v4_NoText, v5_NoText, v6_NoText, v7_NoText, v8_NoText⟩, k_NoText_BadRow := kk_NoText_BadRow, np_BadRow_NoText := nq_BadRow_NoText, p_BadRow_BadRow := pp_BadRow_BadRow, p_NoText_NoText := pp_NoText_NoText, d_is_good := tx_mk X G0 a_is_good l_is_good c_is_good k_is_good (fun _ _ _ _ _ _ us hl => match us, hl with | [_, _], _ => rfl), d_checked := tx_mk X G0 a_checked l_checked c_checked k_checked (fun _ _ _ _ _ _ us hl => match us, hl with | [_], _ => rfl), d_is_number := tx_mk X G0 a_is_number l_is_number c_is_number k_is_number (fun _ _ _ _ _ _ us hl => match us, hl with | [_, _], _ => rfl), d_number_of := tx_mk X G0 a_number_of l_number_of c_number_of k_number_of (fun _ _ _ _ _ _ us hl => match us, hl with | [_], _ => rfl), d_show_row := tx_mk X G0 a_show_row l_show_row c_show_row k_show_row (fun _ _ _ _ _ _ us hl => match us, hl with | [_], _ => rfl), d_read_piece := tx_mk X G0 a_read_piece l_read_piece c_read_piece k_read_piece (fun _ _ _ _ _ _ us hl => match us, hl with | [_], _ => rfl), d_read_row := tx_mk X G0 a_read_row l_read_row c_read_row k_read_row (fun _ _ _ _ _ _ us hl => match us, hl with | [_], _ => rfl), d__law_cell_at := tx_mk X G0 a__law_cell_at l__law_cell_at c__law_cell_at k__law_cell_at (fun _ _ _ _ _ _ us hl => match us, hl with | [_, _], _ => rfl), d__law_stream := tx_mk X G0 a__law_stream l__law_stream c__law_stream k__law_stream (fun _ _ _ _ _ _ us hl => match us, hl with | [_, _], _ => rfl), d__law_row := tx_mk X G0 a__law_row l__law_row c__law_row k__law_row (fun _ _ _ _ _ _ us hl => match us, hl with | [_], _ => rfl), d__law_spoilt := tx_mk X G0 a__law_spoilt l__law_spoilt c__law_spoilt k__law_spoilt (fun _ _ _ _ _ _ us hl => match us, hl with | [_, _], _ => rfl), d__law_text := tx_mk X G0 a__law_text l__law_text c__law_text k__law_text (fun _ _ _ _ _ _ us hl => match us, hl with | [_], _ => rfl), d__law_number := tx_mk X G0 a__law_number l__law_number c__law_number k__law_number (fun _ _ _ _ _ _ us hl => match us, hl with | [_], _ => rfl), d__law_due := tx_mk X G0 a__law_due l__law_due c__law_due k__law_due (fun _ _ _ _ _ _ us hl => match us, hl with | [_], _ => rfl), d__law_bad := tx_mk X G0 a__law_bad l__law_bad c__law_bad k__law_bad (fun _ _ _ _ _ _ us hl => match us, hl with | [_], _ => rfl), d__law_read := tx_mk X G0 a__law_read l__law_read c__law_read k__law_read (fun _ _ _ _ _ _ us hl => match us, hl with | [_], _ => rfl), d__law_kinds := tx_mk X G0 a__law_kinds l__law_kinds c__law_kinds k__law_kinds (fun _ _ _ _ _ _ us hl => match us, hl with | [_], _ => rfl), d__law_right := tx_mk X G0 a__law_right l__law_right c__law_right k__law_right (fun _ _ _ _ _ _ us hl => match us, hl with | [_], _ => rfl), d__law_changed := tx_mk X G0 a__law_changed l__law_changed c__law_changed k__law_changed (fun _ _ _ _ _ _ us hl => match us, hl with | [_, _], _ => rfl), d_law := tx_mk X G0 a_law l_law c_law k_law (fun _ _ _ _ _ _ us hl => match us, hl with | [_], _ => rfl) }
  refine ⟨PySem.W.fnOf "law" "law" (defArgs s_law) (defBody s_law) (defScope s_law) .none kV19 dc19 pm19 an19 cd19 ct19, fun s v => .of_eq rfl, fun base _ _ => ?_⟩
  have D_BadRow___init__ := ok_BadRow___init__ (P := l.prog) (w := w) (base := base) T
  have D_is_good := ok_is_good (P := l.prog) (w := w) (base := base) T 
  have D_checked := ok_checked (P := l.prog) (w := w) (base := base) T D_is_good D_BadRow___init__
  have D_is_number := ok_is_number (P := l.prog) (w := w) (base := base) T 
  have D_number_of := ok_number_of (P := l.prog) (w := w) (base := base) T D_is_number
  have D_show_row := ok_show_row (P := l.prog) (w := w) (base := base) T 
  have D_read_piece := ok_read_piece (P := l.prog) (w := w) (base := base) T D_number_of
  have D_read_row := ok_read_row (P := l.prog) (w := w) (base := base) T D_read_piece D_checked
  have D__law_cell_at := ok__law_cell_at (P := l.prog) (w := w) (base := base) T 
  have D__law_stream := ok__law_stream (P := l.prog) (w := w) (base := base) T 
  have D__law_row := ok__law_row (P := l.prog) (w := w) (base := base) T D__law_stream
  have D__law_spoilt := ok__law_spoilt (P := l.prog) (w := w) (base := base) T 
  have D__law_text := ok__law_text (P := l.prog) (w := w) (base := base) T 
  have D__law_number := ok__law_number (P := l.prog) (w := w) (base := base) T 
  have D__law_due := ok__law_due (P := l.prog) (w := w) (base := base) T D__law_number
  have D__law_bad := ok__law_bad (P := l.prog) (w := w) (base := base) T 
  have D__law_read := ok__law_read (P := l.prog) (w := w) (base := base) T D_read_row
  have D__law_kinds := ok__law_kinds (P := l.prog) (w := w) (base := base) T 
  have D__law_right := ok__law_right (P := l.prog) (w := w) (base := base) T D__law_due D__law_read D__law_bad D__law_kinds
  have D__law_changed := ok__law_changed (P := l.prog) (w := w) (base := base) T 
  have D_law := ok_law (P := l.prog) (w := w) (base := base) T D__law_row D_show_row D__law_text D__law_right D__law_cell_at D__law_spoilt D__law_changed
  exact law_end D_law (PySem.W.mg_of X G0 a_law) l_law
theorem walk {l : PySem.W.OpenLaw} {q : Program} {loose : List Str} {XP : (Str → Option Value) → Heap → Prop} {YP : World → Heap → Prop} {d : DefRec} {K : Params → PySem.W.Frag} (hn : l.most = some 63) (hdf : d.params.defaults = [])
    (hY : ∀ (w : World) (h : Heap), YP w h → (K w.params).In h)
    (F : ∀ (w : World) (mg : Str → Option Value) (fa : Addr) (h : Heap), (K w.params).In h → h.Ns mainGlobals mg → mg d.name = some (.ref fa) →
      ∃ fd : FuncData, (∀ (s : Shared) (u : Value), BindsTo s fd ⟨[u], []⟩ [("_law_script", u)]) ∧ ∀ base : Heap, (K w.params).In base → base.Ns mainGlobals mg → FnOk l.prog w (K w.params) mg base (L2N.CX l.prog w) 7 fa fd ["_law_script"] (LawSp (K w.params))) :
    PySem.W.WalkO q loose XP YP l.row.toRowW d [] (fun f vs => PySem.call f vs) :=
  L2.walk_of (n := 63) (k := 7) (x := "_law_script") (CX := fun w => L2N.CX l.prog w) (sp := fun w => LawSp (K w.params)) hn (by decide) hdf ⟨rfl, by decide, by decide⟩ hY F (fun _ H a ns hl _ hS => law_start hl hS) fun _ _ _ _ _ z => by
    obtain ⟨_, _, _, _, _, _, _, _, _, _, _, _, z⟩ := z
    exact z.elim
end Y
open PySem PySem.W PyProof.Rows
set_option maxRecDepth 100000 in
set_option maxHeartbeats 0 in
theorem PySem.Challenge.cw_sharewheel_k82_rows_written_holds : PySem.Challenge.rw_sharewheel_k82_rows_written.Holds := by
  w_on; o_law; k_head; (case hw => w_witness2)
  k_fill
  refine Y.walk (l := PySem.Challenge.rw_sharewheel_k82_rows_written) rfl rfl (fun w h Y => PySem.W.kIn_of Y) ?F
  case F =>
    intro w mg fa h KX G hmg
    refine' Y.all_mk KX G hmg ?z_all ?z_enumerate ?z_int ?z_isinstance ?z_len ?z_list ?z_max ?z_range ?z_str ?z_tuple ?x1_NoText ?x2_NoText ?x3_NoText ?x4_NoText ?x5_NoText ?x6_NoText ?x7_NoText ?gg_FIGURES ?gg_GREATEST ?gg_LATEST ?gg_MANY ?gg_SENDERS ?h1_BadRow ?h1_NoText ?o1_BadRow ?o2_BadRow ?o3_BadRow ?o4_BadRow ?o5_BadRow ?o6_BadRow ?a_BadRow___init__ ?i_BadRow___init__ ?l_BadRow___init__ ?c_BadRow___init__ ?k_BadRow___init__ ?m1_BadRow_place ?v1_BadRow ?v2_BadRow ?v3_BadRow ?v4_BadRow ?v1_NoText ?v2_NoText ?v3_NoText ?v4_NoText ?v5_NoText ?v6_NoText ?v7_NoText ?v8_NoText ?kk_NoText_BadRow ?nq_BadRow_NoText ?pp_BadRow_BadRow ?pp_NoText_NoText ?a_is_good ?l_is_good ?c_is_good ?k_is_good ?a_checked ?l_checked ?c_checked ?k_checked ?a_is_number ?l_is_number ?c_is_number ?k_is_number ?a_number_of ?l_number_of ?c_number_of ?k_number_of ?a_show_row ?l_show_row ?c_show_row ?k_show_row ?a_read_piece ?l_read_piece ?c_read_piece ?k_read_piece ?a_read_row ?l_read_row ?c_read_row ?k_read_row ?a__law_cell_at ?l__law_cell_at ?c__law_cell_at ?k__law_cell_at ?a__law_stream ?l__law_stream ?c__law_stream ?k__law_stream ?a__law_row ?l__law_row ?c__law_row ?k__law_row ?a__law_spoilt ?l__law_spoilt ?c__law_spoilt ?k__law_spoilt ?a__law_text ?l__law_text ?c__law_text ?k__law_text ?a__law_number ?l__law_number ?c__law_number ?k__law_number ?a__law_due ?l__law_due ?c__law_due ?k__law_due ?a__law_bad ?l__law_bad ?c__law_bad ?k__law_bad ?a__law_read ?l__law_read ?c__law_read ?k__law_read ?a__law_kinds ?l__law_kinds ?c__law_kinds ?k__law_kinds ?a__law_right ?l__law_right ?c__law_right ?k__law_right ?a__law_changed ?l__law_changed ?c__law_changed ?k__law_changed ?a_law ?l_law ?c_law ?k_law
    (case z_all => k_is)
    (case z_enumerate => k_is)
    (case z_int => k_is)
    (case z_isinstance => k_is)
    (case z_len => k_is)
    (case z_list => k_is)
    (case z_max => k_is)
    (case z_range => k_is)
    (case z_str => k_is)
    (case z_tuple => k_is)
    (case x1_NoText => k_is)
    (case x2_NoText => k_exc)
    (case x3_NoText => k_is)
    (case x4_NoText => k_is)
    (case x5_NoText => k_is)
    (case x6_NoText => k_is)
    (case x7_NoText => first | rfl | k_is)
    (case gg_FIGURES => k_is)
    (case gg_GREATEST => k_is)
    (case gg_LATEST => k_is)
    (case gg_MANY => k_is)
    (case gg_SENDERS => k_is)
    (case h1_BadRow => k_is)
    (case h1_NoText => k_is)
    (case o1_BadRow => k_is)
    (case o2_BadRow => first | k_is | rfl | decide +kernel)
    (case o3_BadRow => k_is)
    (case o4_BadRow => k_is)
    (case o5_BadRow => k_is)
    (case o6_BadRow => k_is)
    (case a_BadRow___init__ => k_is)
    (case i_BadRow___init__ => k_is)
    (case l_BadRow___init__ => k_is)
    (case c_BadRow___init__ => k_is)
    (case k_BadRow___init__ => k_is)
    (case m1_BadRow_place => k_is)
    (case v1_BadRow => k_is)
    (case v2_BadRow => k_is)
    (case v3_BadRow => k_is)
    (case v4_BadRow => k_is)
    (case v1_NoText => k_is)
    (case v2_NoText => k_is)
    (case v3_NoText => k_is)
    (case v4_NoText => k_is)
    (case v5_NoText => k_is)
    (case v6_NoText => k_is)
    (case v7_NoText => k_is)
    (case v8_NoText => k_is)
    (case kk_NoText_BadRow => first | k_is | rfl | decide +kernel)
    (case nq_BadRow_NoText => first | k_is | rfl | decide +kernel)
    (case pp_BadRow_BadRow => first | k_is | rfl | decide +kernel)
    (case pp_NoText_NoText => first | k_is | rfl | decide +kernel)
    (case a_is_good => k_is)
    (case l_is_good => k_is)
    (case c_is_good => k_is)
    (case k_is_good => k_is)
    (case a_checked => k_is)
    (case l_checked => k_is)
    (case c_checked => k_is)
    (case k_checked => k_is)
    (case a_is_number => k_is)
    (case l_is_number => k_is)
    (case c_is_number => k_is)
    (case k_is_number => k_is)
    (case a_number_of => k_is)
    (case l_number_of => k_is)
    (case c_number_of => k_is)
    (case k_number_of => k_is)
    (case a_show_row => k_is)
    (case l_show_row => k_is)
    (case c_show_row => k_is)
    (case k_show_row => k_is)
    (case a_read_piece => k_is)
    (case l_read_piece => k_is)
    (case c_read_piece => k_is)
    (case k_read_piece => k_is)
    (case a_read_row => k_is)
    (case l_read_row => k_is)
    (case c_read_row => k_is)
    (case k_read_row => k_is)
    (case a__law_cell_at => k_is)
    (case l__law_cell_at => k_is)
    (case c__law_cell_at => k_is)
    (case k__law_cell_at => k_is)
    (case a__law_stream => k_is)
    (case l__law_stream => k_is)
    (case c__law_stream => k_is)
    (case k__law_stream => k_is)
    (case a__law_row => k_is)
    (case l__law_row => k_is)
    (case c__law_row => k_is)
    (case k__law_row => k_is)
    (case a__law_spoilt => k_is)
    (case l__law_spoilt => k_is)
    (case c__law_spoilt => k_is)
    (case k__law_spoilt => k_is)
    (case a__law_text => k_is)
    (case l__law_text => k_is)
    (case c__law_text => k_is)
    (case k__law_text => k_is)
    (case a__law_number => k_is)
    (case l__law_number => k_is)
    (case c__law_number => k_is)
    (case k__law_number => k_is)
    (case a__law_due => k_is)
    (case l__law_due => k_is)
    (case c__law_due => k_is)
    (case k__law_due => k_is)
    (case a__law_bad => k_is)
    (case l__law_bad => k_is)
    (case c__law_bad => k_is)
    (case k__law_bad => k_is)
    (case a__law_read => k_is)
    (case l__law_read => k_is)
    (case c__law_read => k_is)
    (case k__law_read => k_is)
    (case a__law_kinds => k_is)
    (case l__law_kinds => k_is)
    (case c__law_kinds => k_is)
    (case k__law_kinds => k_is)
    (case a__law_right => k_is)
    (case l__law_right => k_is)
    (case c__law_right => k_is)
    (case k__law_right => k_is)
    (case a__law_changed => k_is)
    (case l__law_changed => k_is)
    (case c__law_changed => k_is)
    (case k__law_changed => k_is)
    (case a_law => k_is)
    (case l_law => k_is)
    (case c_law => k_is)
    (case k_law => k_is)
#print axioms PySem.Challenge.cw_sharewheel_k82_rows_written_holds


