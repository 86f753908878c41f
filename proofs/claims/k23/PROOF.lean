import PyProof.Rows.All
import Wide.All
import OpenK.AllK
import Wide.FinOn
import HandS.ForMost
import HandS.Wide
import HandS.ForExc
import HandS.IsInst
import HandS.Exc
import HandS.WordsExc
import HandS.TryOnly
import HandS.Codes
import HandS.ExcOwn
import HandS.WideBits
import HandS.TryMany
import HandS.ExcCtx
import HandS.HotCalls
import HandS.Style
import HandS.Iter
import HandS.Defaults
import KE.DatumOrd
import HandS.SortKw
import HandS.ExcInit
import HandS.ExcIs
import HandS.ExcField
import HandS.More
import KE.GoesNew
import KE.GoesMore
import HandS.Dict
import HandS.Deep
import HandS.BoundDict
import PyProof.EqAt
import PyProof.EqKinds
import PyProof.ListOps
import HandS.SortInts
import HandS.Conv
import KE.KDictSum
import HandS.DictComp
import HandS.Text
import HandS.DictTup
import PyProof.StrOps2
import HandS.Finally
import HandS.StrMore
import PyProof.Rows.StrFirst
import PyProof.Rows.StrLawsPart
import KE.KIntText
import PyProof.Rows.StrBin
import PyProof.Rows.StrJoinMade
import HandS.CallSlots
import PyProof.Rows.RuleB_bool
import PySem.Challenge.RW_sharewheel_k23_whole_flow_walked
set_option Elab.async false
set_option linter.all false
set_option maxRecDepth 100000
set_option maxHeartbeats 4000000
namespace Y
open PySem L2

/-! ## assertions: what a value is, over what never changes -/
structure As where
  p : Hp → V → Prop
  mono : ∀ {F F' : Hp} {v : V}, Same F F' → p F v → p F' v
def Cst (w : V) : As := ⟨fun _ v => v = w, fun _ h => h⟩
abbrev I (n : Int) : As := Cst (.int n)
abbrev B (b : Bool) : As := Cst (.bl b)
abbrev Rf (a : Addr) : As := Cst (.ref a)
abbrev Nn : As := Cst .non
abbrev S (x : Str) : As := Cst (.str x)
def Any : As := ⟨fun _ _ => True, fun _ h => h⟩
def All (F : Hp) : List As → List V → Prop
  | [], [] => True
  | R :: Rs, x :: xs => R.p F x ∧ All F Rs xs
  | _, _ => False
theorem All.mono {F F' : Hp} (s : Same F F') : ∀ {Rs : List As} {xs : List V}, All F Rs xs → All F' Rs xs
  | [], [], _ => trivial
  | R :: Rs, x :: xs, h => ⟨R.mono s h.1, All.mono s h.2⟩
  | [], _ :: _, h => h.elim
  | _ :: _, [], h => h.elim
theorem All.length {F : Hp} : ∀ {Rs : List As} {xs : List V}, All F Rs xs → xs.length = Rs.length
  | [], [], _ => rfl
  | R :: Rs, x :: xs, h => congrArg (· + 1) (All.length h.2)
  | [], _ :: _, h => h.elim
  | _ :: _, [], h => h.elim
theorem All.get {F : Hp} : ∀ {Rs : List As} {xs : List V} {i : Nat} {R : As}, All F Rs xs → Rs[i]? = some R → ∃ x, xs[i]? = some x ∧ R.p F x
  | [], [], i, R, _, e => by simp at e
  | R :: Rs, x :: xs, 0, R', h, e => by
    have e' : R = R' := Option.some.inj e
    subst e'; exact ⟨x, rfl, h.1⟩
  | R :: Rs, x :: xs, i + 1, R', h, e => by
    obtain ⟨y, e1, e2⟩ := All.get (i := i) h.2 (by simpa using e)
    exact ⟨y, by simpa using e1, e2⟩
  | [], _ :: _, _, _, h, _ => h.elim
  | _ :: _, [], _, _, h, _ => h.elim
theorem All.app {F : Hp} : ∀ {Rs Ss : List As} {xs ys : List V}, All F Rs xs → All F Ss ys → All F (Rs ++ Ss) (xs ++ ys)
  | [], _, [], _, _, h => h
  | R :: Rs, _, x :: xs, _, h, h' => ⟨h.1, All.app h.2 h'⟩
  | [], _, _ :: _, _, h, _ => h.elim
  | _ :: _, _, [], _, h, _ => h.elim
theorem All.of_get {F : Hp} : ∀ {Rs : List As} {xs : List V}, xs.length = Rs.length → (∀ (i : Nat) (R : As) (x : V), Rs[i]? = some R → xs[i]? = some x → R.p F x) → All F Rs xs
  | [], [], _, _ => trivial
  | R :: Rs, x :: xs, e, h => ⟨h 0 R x rfl rfl, All.of_get (by simpa using e) fun i R' x' a b => h (i + 1) R' x' (by simpa using a) (by simpa using b)⟩
  | [], _ :: _, e, _ => by simp at e
  | _ :: _, [], e, _ => by simp at e
theorem same_seqT {K : PySem.W.Frag} {F F' : Hp} {a : Addr} {xs : List V} (e : Same F F') (h : SqT K F a xs) : SqT K F' a xs := by
  rcases h with (h | ⟨o, h⟩) | h
  · exact .inl (.inl (e _ _ h))
  · exact .inl (.inr ⟨o, e _ _ h⟩)
  · exact .inr h
/-- a tuple, a list that stands still -/
def Tp (K : PySem.W.Frag) (Rs : List As) : As := ⟨fun F v => ∃ a xs, v = .ref a ∧ SqT K F a xs ∧ All F Rs xs, fun s h => by
  obtain ⟨a, xs, e, h1, h2⟩ := h; exact ⟨a, xs, e, same_seqT s h1, h2.mono s⟩⟩
def Ls (K : PySem.W.Frag) (Rs : List As) : As := ⟨fun F v => ∃ a xs, v = .ref a ∧ SqL K F a xs ∧ All F Rs xs, fun s h => by
  obtain ⟨a, xs, e, h1, h2⟩ := h; exact ⟨a, xs, e, s.seq h1, h2.mono s⟩⟩
/-- some value of a family -/
def Xs {β : Type} (P : β → Prop) (R : β → As) : As := ⟨fun F v => ∃ b, P b ∧ (R b).p F v, fun s h => by
  obtain ⟨b, h1, h2⟩ := h; exact ⟨b, h1, (R b).mono s h2⟩⟩

/-! ## the slots -/
abbrev Gm := List (Option As)
def Sat (F : Hp) : Gm → St → Prop
  | [], [] => True
  | none :: Γ, _ :: σ => Sat F Γ σ
  | some R :: Γ, s :: σ => (∃ v, s = some v ∧ R.p F v) ∧ Sat F Γ σ
  | _, _ => False
theorem Sat.mono {F F' : Hp} (s : Same F F') : ∀ {Γ : Gm} {σ : St}, Sat F Γ σ → Sat F' Γ σ
  | [], [], _ => trivial
  | none :: Γ, _ :: σ, h => Sat.mono (Γ := Γ) s h
  | some R :: Γ, _ :: σ, h => by
    obtain ⟨⟨v, e, q⟩, t⟩ := h
    exact ⟨⟨v, e, R.mono s q⟩, Sat.mono s t⟩
  | [], _ :: _, h => h.elim
  | none :: _, [], h => h.elim
  | some _ :: _, [], h => h.elim
theorem Sat.get {F : Hp} : ∀ {Γ : Gm} {σ : St} {i : Nat} {R : As}, Sat F Γ σ → Γ[i]? = some (some R) → ∃ v, σ[i]? = some (some v) ∧ R.p F v
  | [], [], i, R, _, e => by simp at e
  | none :: Γ, _ :: σ, 0, R, h, e => by simp at e
  | none :: Γ, s :: σ, i + 1, R, h, e => by
    obtain ⟨v, a, b⟩ := Sat.get (Γ := Γ) (σ := σ) (i := i) (R := R) h (by simpa using e)
    exact ⟨v, by simpa using a, b⟩
  | some R :: Γ, s :: σ, 0, R', h, e => by
    obtain ⟨⟨v, e1, q⟩, t⟩ := h
    have e' : R = R' := by simpa using e
    subst e'; subst e1; exact ⟨v, rfl, q⟩
  | some R :: Γ, s :: σ, i + 1, R', h, e => by
    obtain ⟨_, t⟩ := h
    obtain ⟨v, a, b⟩ := Sat.get (Γ := Γ) (σ := σ) (i := i) (R := R') t (by simpa using e)
    exact ⟨v, by simpa using a, b⟩
  | [], _ :: _, _, _, h, _ => h.elim
  | none :: _, [], _, _, h, _ => h.elim
  | some _ :: _, [], _, _, h, _ => h.elim
theorem Sat.set {F : Hp} {R : As} {v : V} (q : R.p F v) : ∀ {Γ : Gm} {σ : St} (i : Nat), Sat F Γ σ → Sat F (Γ.set i (some R)) (σ.set i (some v))
  | [], [], _, _ => trivial
  | none :: Γ, _ :: σ, 0, h => ⟨⟨v, rfl, q⟩, h⟩
  | none :: Γ, s :: σ, i + 1, h => Sat.set q (Γ := Γ) (σ := σ) i h
  | some _ :: Γ, s :: σ, 0, h => ⟨⟨v, rfl, q⟩, h.2⟩
  | some _ :: Γ, s :: σ, i + 1, h => ⟨h.1, Sat.set q (Γ := Γ) (σ := σ) i h.2⟩
  | [], _ :: _, _, h => h.elim
  | none :: _, [], _, h => h.elim
  | some _ :: _, [], _, h => h.elim
theorem Sat.unset {F : Hp} {s : Option V} : ∀ {Γ : Gm} {σ : St} (i : Nat), Sat F Γ σ → Sat F (Γ.set i none) (σ.set i s)
  | [], [], _, _ => trivial
  | none :: Γ, _ :: σ, 0, h => h
  | none :: Γ, s :: σ, i + 1, h => Sat.unset (Γ := Γ) (σ := σ) i h
  | some _ :: Γ, s :: σ, 0, h => h.2
  | some _ :: Γ, s :: σ, i + 1, h => ⟨h.1, Sat.unset (Γ := Γ) (σ := σ) i h.2⟩
  | [], _ :: _, _, h => h.elim
  | none :: _, [], _, h => h.elim
  | some _ :: _, [], _, h => h.elim
/-- fewer things known of the slots -/
inductive Wk : Gm → Gm → Prop
  | nil : Wk [] []
  | eq {R : Option As} {Γ Γ' : Gm} : Wk Γ Γ' → Wk (R :: Γ) (R :: Γ')
  | no {R : Option As} {Γ Γ' : Gm} : Wk Γ Γ' → Wk (R :: Γ) (none :: Γ')
theorem Sat.wk {F : Hp} : ∀ {Γ Γ' : Gm} {σ : St}, Wk Γ Γ' → Sat F Γ σ → Sat F Γ' σ
  | _, _, σ, .nil, h => h
  | none :: Γ, _, s :: σ, .eq w, h => Sat.wk (σ := σ) w h
  | some R :: Γ, _, s :: σ, .eq w, h => ⟨h.1, Sat.wk w h.2⟩
  | none :: Γ, _, s :: σ, .no w, h => Sat.wk (σ := σ) w h
  | some R :: Γ, _, s :: σ, .no w, h => Sat.wk (σ := σ) w h.2
  | none :: _, _, [], _, h => h.elim
  | some _ :: _, _, [], _, h => h.elim
theorem Wk.refl : ∀ Γ : Gm, Wk Γ Γ
  | [] => .nil
  | _ :: Γ => .eq (Wk.refl Γ)
theorem sat_start {F : Hp} : ∀ {Rs : List As} {vs : List V} (n : Nat), All F Rs vs → Sat F (Rs.map some ++ List.replicate n none) (vs.map some ++ List.replicate n none)
  | [], [], n, _ => by
    show Sat F (List.replicate n none) (List.replicate n none)
    induction n with
    | zero => trivial
    | succ n ih => exact ih
  | R :: Rs, x :: xs, n, h => ⟨⟨x, rfl, h.1⟩, sat_start n h.2⟩
  | [], _ :: _, _, h => h.elim
  | _ :: _, [], _, h => h.elim

/-! ## what is owned -/
structure OA where
  p : Hp → HO → Prop
  mono : ∀ {F F' : Hp} {o : HO}, Same F F' → p F o → p F' o
def oL (Rs : List As) : OA := ⟨fun F o => ∃ xs, o = .lst xs ∧ All F Rs xs, fun s h => by
  obtain ⟨xs, e, q⟩ := h; exact ⟨xs, e, q.mono s⟩⟩
abbrev Om := List (Addr × OA)
def Own (F H : Hp) (Ω : Om) : Prop := ∀ x, x ∈ Ω → F x.1 = none ∧ ∃ o, H x.1 = some o ∧ x.2.p F o

structure Ext (foot : List Addr) (F0 H0 F H : Hp) : Prop where
  fe : Same F0 F
  fr : ∀ a o, H0 a = some o → a ∉ foot → H a = some o
  dm : ∀ a, H a = none → H0 a = none
  nw : ∀ a, H0 a ≠ none → F0 a = none → F a = none
theorem Ext.refl (ft : List Addr) (F H : Hp) : Ext ft F H F H := ⟨Same.refl F, fun _ _ h _ => h, fun _ h => h, fun _ _ h => h⟩
theorem Ext.trans {ft : List Addr} {F0 H0 F1 H1 F2 H2 : Hp} (a : Ext ft F0 H0 F1 H1) (b : Ext ft F1 H1 F2 H2) : Ext ft F0 H0 F2 H2 :=
  ⟨a.fe.trans b.fe, fun x o h n => b.fr x o (a.fr x o h n) n, fun x h => a.dm x (b.dm x h), fun x h f => b.nw x (fun z => h (a.dm x z)) (a.nw x h f)⟩
theorem Ext.wid {ft ft' : List Addr} {F0 H0 F1 H1 : Hp} (a : Ext ft F0 H0 F1 H1) (h : ∀ x, x ∈ ft → x ∈ ft') : Ext ft' F0 H0 F1 H1 :=
  ⟨a.fe, fun x o q n => a.fr x o q fun z => n (h x z), a.dm, a.nw⟩
/-- a step that touches only what was not there at the start, or the footprint -/
theorem Ext.transL {ft ft' : List Addr} {F0 H0 F1 H1 F2 H2 : Hp} (a : Ext ft F0 H0 F1 H1) (b : Ext ft' F1 H1 F2 H2) (h : ∀ x, x ∈ ft' → x ∈ ft ∨ H0 x = none) : Ext ft F0 H0 F2 H2 :=
  ⟨a.fe.trans b.fe, fun x o q n => b.fr x o (a.fr x o q n) fun z => (h x z).elim n (fun e => by rw [e] at q; cases q),
    fun x h => a.dm x (b.dm x h), fun x h f => b.nw x (fun z => h (a.dm x z)) (a.nw x h f)⟩
structure Bs where
  F : Hp
  H : Hp
  ft : List Addr
  G : Hp
  ro : List Addr
def Bs.pin (Z : Bs) (G : Hp) : Bs := ⟨Z.F, Z.H, Z.ft, G, Z.ro⟩
structure Ctx (Z : Bs) (F H : Hp) (σ : St) (Γ : Gm) (Ω : Om) : Prop where
  sat : Sat F Γ σ
  sub : Same F H
  own : Own F H Ω
  nd : (Ω.map (·.1)).Nodup
  loc : ∀ x, x ∈ Ω → x.1 ∈ Z.ft ∨ Z.H x.1 = none ∨ x.1 ∈ Z.ro
  ext : Ext Z.ft Z.F Z.H F H
  pin : Same Z.G F
section
variable {Z : Bs} {F H F' H' : Hp} {σ σ' : St} {Γ Γ' : Gm} {Ω Ω' : Om} {K : PySem.W.Frag}
theorem Own.ext {ft : List Addr} (e : Ext ft F H F' H') (h : Own F H Ω) (d : ∀ x, x ∈ Ω → x.1 ∉ ft) : Own F' H' Ω := fun x hx => by
  obtain ⟨h1, o, h2, h3⟩ := h x hx
  exact ⟨e.nw _ (by rw [h2]; exact fun z => by cases z) h1, o, e.fr _ _ h2 (d x hx), x.2.mono e.fe h3⟩
theorem Ctx.step (c : Ctx Z F H σ Γ Ω) (e : Ext [] F H F' H') (s : Same F' H') : Ctx Z F' H' σ Γ Ω :=
  ⟨c.sat.mono e.fe, s, c.own.ext e (fun _ _ => List.not_mem_nil), c.nd, c.loc, c.ext.trans (e.wid fun _ h => absurd h List.not_mem_nil), c.pin.trans e.fe⟩
theorem Ctx.wk (c : Ctx Z F H σ Γ Ω) (w : Wk Γ Γ') : Ctx Z F H σ Γ' Ω := ⟨c.sat.wk w, c.sub, c.own, c.nd, c.loc, c.ext, c.pin⟩
theorem Ctx.set (c : Ctx Z F H σ Γ Ω) {R : As} {v : V} (i : Nat) (q : R.p F v) : Ctx Z F H (σ.set i (some v)) (Γ.set i (some R)) Ω := ⟨c.sat.set q i, c.sub, c.own, c.nd, c.loc, c.ext, c.pin⟩
theorem Ctx.topin (c : Ctx Z F H σ Γ Ω) {G : Hp} (h : Same G F) : Ctx (Z.pin G) F H σ Γ Ω := ⟨c.sat, c.sub, c.own, c.nd, c.loc, c.ext, h⟩
theorem Ctx.unpin {G : Hp} (c : Ctx (Z.pin G) F H σ Γ Ω) (h : Same Z.G G) : Ctx Z F H σ Γ Ω := ⟨c.sat, c.sub, c.own, c.nd, c.loc, c.ext, h.trans c.pin⟩
/-- a new thing that never changes -/
theorem Ext.new {p : Addr} {o : HO} (s : Same F H) (h : H p = none) : Ext [] F H (upd F p o) (upd H p o) ∧ Same (upd F p o) (upd H p o) := by
  have hf : F p = none := s.free h
  refine ⟨⟨fun a u e => ?_, fun a u e _ => ?_, fun a e => ?_, fun a h1 h2 => ?_⟩, fun a u e => ?_⟩
  · rw [upd_ne (ne_of_none e hf)]; exact e
  · rw [upd_ne (ne_of_none e h)]; exact e
  · by_cases q : a = p
    · subst q; exact h
    · rw [upd_ne q] at e; exact e
  · have q : a ≠ p := fun z => h1 (by rw [z]; exact h)
    rw [upd_ne q]; exact h2
  · by_cases q : a = p
    · subst q; rw [upd_same] at e ⊢; exact e
    · rw [upd_ne q] at e ⊢; exact s a u e
/-- a new thing that is not frozen -/
theorem Ext.newH {p : Addr} {o : HO} (h : H p = none) : Ext [] F H F (upd H p o) := by
  refine ⟨Same.refl F, fun a u e _ => ?_, fun a e => ?_, fun a h1 h2 => h2⟩
  · rw [upd_ne (ne_of_none e h)]; exact e
  · by_cases q : a = p
    · subst q; exact h
    · rw [upd_ne q] at e; exact e

/-! ## judgements -/
def Ev (Γ : Gm) (Ω : Om) (te : TE) (R : As) : Prop := ∀ (Z : Bs) (F H : Hp) (σ : St), Ctx Z F H σ Γ Ω → ∀ Q : VK, (∀ v F' H', Ctx Z F' H' σ Γ Ω → Ext [] F H F' H' → R.p F' v → Q v H') → te σ H Q
def EvT (Γ : Gm) (Ω : Om) (tt : TT) (b : Bool) : Prop := ∀ (Z : Bs) (F H : Hp) (σ : St), Ctx Z F H σ Γ Ω → ∀ Q : Bool → Hp → Prop, (∀ F' H', Ctx Z F' H' σ Γ Ω → Ext [] F H F' H' → Q b H') → tt σ H Q
def EvA (Γ : Gm) (Ω : Om) (ta : TA) (Rs : List As) : Prop := ∀ (Z : Bs) (F H : Hp) (σ : St), Ctx Z F H σ Γ Ω → ∀ Q : List V → Hp → Prop, (∀ vs F' H', Ctx Z F' H' σ Γ Ω → Ext [] F H F' H' → All F' Rs vs → Q vs H') → ta σ H Q
/-- by values: an operation of two, of one, a call -/
def RV (r : R2) (Rx Ry R : As) : Prop := ∀ (F H : Hp) (x y : V), Same F H → Rx.p F x → Ry.p F y → ∀ Q : VK, (∀ v F' H', Ext [] F H F' H' → Same F' H' → R.p F' v → Q v H') → r x y H Q
def RC (r : List V → Hp → VK → Prop) (Rs : List As) (R : As) : Prop := ∀ (F H : Hp) (vs : List V), Same F H → All F Rs vs → ∀ Q : VK, (∀ v F' H', Ext [] F H F' H' → Same F' H' → R.p F' v → Q v H') → r vs H Q

variable {te ta tb : TE} {tt tu : TT} {R Rx Ry : As}
theorem ev_var {i : Nat} (h : Γ[i]? = some (some R)) : Ev Γ Ω (tVar i) R := fun Z F H σ c Q q => by
  obtain ⟨v, e, r⟩ := c.sat.get h
  exact ⟨v, e, q v F H c (Ext.refl _ _ _) r⟩
theorem ev_c {v : V} : Ev Γ Ω (tC v) (Cst v) := fun Z F H σ c Q q => q v F H c (Ext.refl _ _ _) rfl
theorem ev_op {r : R2} (ha : Ev Γ Ω ta Rx) (hb : Ev Γ Ω tb Ry) (hr : RV r Rx Ry R) : Ev Γ Ω (tOp r ta tb) R := fun Z F H σ c Q q =>
  ha Z F H σ c _ fun x F1 H1 c1 s1 rx => hb Z F1 H1 σ c1 _ fun y F2 H2 c2 s2 ry =>
    hr F2 H2 x y c2.sub (Rx.mono s2.fe rx) ry Q fun v F3 H3 e3 s3 rv => q v F3 H3 (c2.step e3 s3) (s1.trans (s2.trans e3)) rv
theorem ev_un {r : V → Hp → VK → Prop} (ha : Ev Γ Ω ta Rx) (hr : ∀ (F H : Hp) (x : V), Same F H → Rx.p F x → ∀ Q : VK, (∀ v, R.p F v → Q v H) → r x H Q) : Ev Γ Ω (tUn r ta) R := fun Z F H σ c Q q =>
  ha Z F H σ c _ fun x F1 H1 c1 s1 rx => hr F1 H1 x c1.sub rx Q fun v rv => q v F1 H1 c1 s1 rv
theorem ev_neg {n : Int} (ha : Ev Γ Ω ta (I n)) : Ev Γ Ω (tUn (rU fun i => .int (-i)) ta) (I (-n)) := ev_un ha fun F H x _ e Q q => ⟨n, e, q _ rfl⟩
theorem rv_I0 {g : Int → Int → V} {i j : Int} : RV (rI0 g) (I i) (I j) (Cst (g i j)) := fun F H x y s e e' Q q => ⟨i, j, e, e', q _ F H (Ext.refl _ _ _) s rfl⟩
theorem rv_I {C : Int → Int → Prop} {g : Int → Int → V} {i j : Int} (h : C i j) : RV (rI C g) (I i) (I j) (Cst (g i j)) := fun F H x y s e e' Q q => ⟨i, j, e, e', h, q _ F H (Ext.refl _ _ _) s rfl⟩
theorem ev_I0 {g : Int → Int → V} {i j : Int} (ha : Ev Γ Ω ta (I i)) (hb : Ev Γ Ω tb (I j)) : Ev Γ Ω (tOp (rI0 g) ta tb) (Cst (g i j)) := ev_op ha hb rv_I0
theorem ev_I {C : Int → Int → Prop} {g : Int → Int → V} {i j : Int} (ha : Ev Γ Ω ta (I i)) (hb : Ev Γ Ω tb (I j)) (h : C i j) : Ev Γ Ω (tOp (rI C g) ta tb) (Cst (g i j)) := ev_op ha hb (rv_I h)
theorem ev_eqI {i j : Int} (ha : Ev Γ Ω ta (I i)) (hb : Ev Γ Ω tb (I j)) : Ev Γ Ω (tOp rEq ta tb) (B (decide (i = j))) := ev_op ha hb fun F H x y s e e' Q q => by
  cases e; cases e'
  refine ⟨rfl, ?_⟩
  have z : decide (V.int i = V.int j) = decide (i = j) := by simp
  rw [z]
  exact q _ F H (Ext.refl _ _ _) s rfl
theorem ev_neI {i j : Int} (ha : Ev Γ Ω ta (I i)) (hb : Ev Γ Ω tb (I j)) : Ev Γ Ω (tOp rNe ta tb) (B (!decide (i = j))) := ev_op ha hb fun F H x y s e e' Q q => by
  cases e; cases e'
  refine ⟨rfl, ?_⟩
  have z : decide (V.int i = V.int j) = decide (i = j) := by simp
  rw [z]
  exact q _ F H (Ext.refl _ _ _) s rfl
theorem ev_cast {R' : As} (h : Ev Γ Ω te R) (e : ∀ F v, R.p F v → R'.p F v) : Ev Γ Ω te R' := fun Z F H σ c Q q => h Z F H σ c Q fun v F1 H1 c1 s1 r => q v F1 H1 c1 s1 (e _ _ r)
theorem ev_is {R' : As} (h : Ev Γ Ω te R) (e : R = R') : Ev Γ Ω te R' := e ▸ h
/-! places of lists and tuples -/
theorem atI_all {F : Hp} {Rs : List As} {xs : List V} {i : Int} (h : All F Rs xs) (e : atI Rs i = some R) : ∃ x, atI xs i = some x ∧ R.p F x := by
  unfold atI at e ⊢
  have hl := h.length
  rw [hl]
  cases z : ixN Rs.length i with
  | none => rw [z] at e; cases e
  | some j => rw [z] at e; exact h.get e
theorem ev_ixT {Rs : List As} {i : Int} (ha : Ev Γ Ω ta (Tp K Rs)) (hb : Ev Γ Ω tb (I i)) (h : atI Rs i = some R) : Ev Γ Ω (tOp (rIxT K) ta tb) R := ev_op ha hb fun F H x y s rx e Q q => by
  obtain ⟨a, xs, ea, hs, hl⟩ := rx
  obtain ⟨v, e1, r⟩ := atI_all hl h
  exact ⟨a, xs, i, v, ea, e, same_seqT s hs, e1, q v F H (Ext.refl _ _ _) s r⟩
theorem ev_ixL {Rs : List As} {i : Int} (ha : Ev Γ Ω ta (Ls K Rs)) (hb : Ev Γ Ω tb (I i)) (h : atI Rs i = some R) : Ev Γ Ω (tOp (rIxL K) ta tb) R := ev_op ha hb fun F H x y s rx e Q q => by
  obtain ⟨a, xs, ea, hs, hl⟩ := rx
  obtain ⟨v, e1, r⟩ := atI_all hl h
  exact ⟨a, xs, i, v, ea, e, s.seq hs, e1, q v F H (Ext.refl _ _ _) s r⟩
/-! arguments, displays, calls of built-ins -/
theorem ea_nil : EvA Γ Ω tNil [] := fun Z F H σ c Q q => q [] F H c (Ext.refl _ _ _) trivial
theorem ea_cons {tr : TA} {Rs : List As} (h : Ev Γ Ω te R) (hr : EvA Γ Ω tr Rs) : EvA Γ Ω (tCons te tr) (R :: Rs) := fun Z F H σ c Q q =>
  h Z F H σ c _ fun v F1 H1 c1 s1 r => hr Z F1 H1 σ c1 _ fun vs F2 H2 c2 s2 rs => q (v :: vs) F2 H2 c2 (s1.trans s2) ⟨R.mono s2.fe r, rs⟩
theorem ev_tup {ta : TA} {Rs : List As} (h : EvA Γ Ω ta Rs) (hl : Rs.length ≤ 1000 := by decide) : Ev Γ Ω (tTup ta) (Tp K Rs) := fun Z F H σ c Q q =>
  h Z F H σ c _ fun vs F1 H1 c1 s1 rs => ⟨by rw [rs.length]; exact Nat.le_of_lt (small1000 hl), fun p hp => by
    obtain ⟨e, s⟩ := Ext.new (o := .tup vs) c1.sub hp
    exact q (.ref p) _ _ (c1.step e s) (s1.trans e) ⟨p, vs, rfl, SqT.of upd_same, rs.mono e.fe⟩⟩
theorem ev_lst {ta : TA} {Rs : List As} (h : EvA Γ Ω ta Rs) (hl : Rs.length ≤ 1000 := by decide) : Ev Γ Ω (tLst ta) (Ls K Rs) := fun Z F H σ c Q q =>
  h Z F H σ c _ fun vs F1 H1 c1 s1 rs => ⟨by rw [rs.length]; exact Nat.le_of_lt (small1000 hl), fun p hp => by
    obtain ⟨e, s⟩ := Ext.new (o := .lst vs) c1.sub hp
    exact q (.ref p) _ _ (c1.step e s) (s1.trans e) ⟨p, vs, rfl, SqL.of upd_same, rs.mono e.fe⟩⟩
theorem ev_cb {r : List V → Hp → VK → Prop} {ta : TA} {Rs : List As} (h : EvA Γ Ω ta Rs) (hr : RC r Rs R) : Ev Γ Ω (tCB r ta) R := fun Z F H σ c Q q =>
  h Z F H σ c _ fun vs F1 H1 c1 s1 rs => hr F1 H1 vs c1.sub rs Q fun v F2 H2 e2 s2 r => q v F2 H2 (c1.step e2 s2) (s1.trans e2) r
/-! tests -/
theorem et_test {b : Bool} (h : Ev Γ Ω te (B b)) : EvT Γ Ω (tTest te) b := fun Z F H σ c Q q => h Z F H σ c _ fun v F1 H1 c1 s1 r => ⟨b, r, q F1 H1 c1 s1⟩
theorem et_B {b : Bool} (h : Ev Γ Ω te (B b)) : EvT Γ Ω (tB te) b := fun Z F H σ c Q q => h Z F H σ c _ fun v F1 H1 c1 s1 r => ⟨b, r, q F1 H1 c1 s1⟩
theorem et_and {a b : Bool} (h1 : EvT Γ Ω tt a) (h2 : a = true → EvT Γ Ω tu b) : EvT Γ Ω (tAnd tt tu) (a && b) := fun Z F H σ c Q q => h1 Z F H σ c _ fun F1 H1 c1 s1 => by
  cases a with
  | true => exact iteT (h2 rfl Z F1 H1 σ c1 Q fun F2 H2 c2 s2 => q F2 H2 c2 (s1.trans s2))
  | false => exact iteF (q F1 H1 c1 s1)
theorem et_or {a b : Bool} (h1 : EvT Γ Ω tt a) (h2 : a = false → EvT Γ Ω tu b) : EvT Γ Ω (tOr tt tu) (a || b) := fun Z F H σ c Q q => h1 Z F H σ c _ fun F1 H1 c1 s1 => by
  cases a with
  | true => exact iteT (q F1 H1 c1 s1)
  | false => exact iteF (h2 rfl Z F1 H1 σ c1 Q fun F2 H2 c2 s2 => q F2 H2 c2 (s1.trans s2))
theorem et_not {a : Bool} (h1 : EvT Γ Ω tt a) : EvT Γ Ω (tNot tt) (!a) := fun Z F H σ c Q q => h1 Z F H σ c _ fun F1 H1 c1 s1 => q F1 H1 c1 s1
theorem et_is {a b : Bool} (h : EvT Γ Ω tt a) (e : a = b) : EvT Γ Ω tt b := e ▸ h
theorem ev_andV {a b : Bool} (h1 : Ev Γ Ω ta (B a)) (h2 : a = true → Ev Γ Ω tb (B b)) : Ev Γ Ω (tAndV ta tb) (B (a && b)) := fun Z F H σ c Q q => h1 Z F H σ c _ fun v F1 H1 c1 s1 r => ⟨a, r, by
  cases a with
  | true => exact iteT (h2 rfl Z F1 H1 σ c1 Q fun v F2 H2 c2 s2 r2 => q v F2 H2 c2 (s1.trans s2) r2)
  | false => exact iteF (q _ F1 H1 c1 s1 rfl)⟩
theorem ev_orV {a b : Bool} (h1 : Ev Γ Ω ta (B a)) (h2 : a = false → Ev Γ Ω tb (B b)) : Ev Γ Ω (tOrV ta tb) (B (a || b)) := fun Z F H σ c Q q => h1 Z F H σ c _ fun v F1 H1 c1 s1 r => ⟨a, r, by
  cases a with
  | true => exact iteT (q _ F1 H1 c1 s1 rfl)
  | false => exact iteF (h2 rfl Z F1 H1 σ c1 Q fun v F2 H2 c2 s2 r2 => q v F2 H2 c2 (s1.trans s2) r2)⟩
theorem ev_notV {a : Bool} (h1 : Ev Γ Ω ta (B a)) : Ev Γ Ω (tNotV ta) (B (!a)) := fun Z F H σ c Q q => h1 Z F H σ c _ fun v F1 H1 c1 s1 r => ⟨a, r, q _ F1 H1 c1 s1 rfl⟩
theorem ev_if {b : Bool} (h : EvT Γ Ω tt b) (h1 : b = true → Ev Γ Ω ta R) (h2 : b = false → Ev Γ Ω tb R) : Ev Γ Ω (tIf tt ta tb) R := fun Z F H σ c Q q => h Z F H σ c _ fun F1 H1 c1 s1 => by
  cases b with
  | true => exact iteT (h1 rfl Z F1 H1 σ c1 Q fun v F2 H2 c2 s2 r2 => q v F2 H2 c2 (s1.trans s2) r2)
  | false => exact iteF (h2 rfl Z F1 H1 σ c1 Q fun v F2 H2 c2 s2 r2 => q v F2 H2 c2 (s1.trans s2) r2)

/-! ## contracts of defs that change nothing -/
def CtF {α : Type} (args : α → List As) (pre : α → Prop) (res : α → As) : Sp := fun vs H Q _ =>
  ∃ a F, Same F H ∧ All F (args a) vs ∧ pre a ∧ ∀ v F' H', Ext [] F H F' H' → Same F' H' → (res a).p F' v → Q v H'
theorem CtF.len {α : Type} {args : α → List As} {pre : α → Prop} {res : α → As} {n : Nat} (h : ∀ a, (args a).length = n) : ∀ vs H Q E, CtF args pre res vs H Q E → vs.length = n := by
  rintro vs H Q E ⟨a, F, _, ha, _⟩
  rw [ha.length, h]
theorem ev_call {α : Type} {args : α → List As} {pre : α → Prop} {res : α → As} {E : XK} {ta : TA} (a : α) (h : EvA Γ Ω ta (args a)) (hp : pre a) : Ev Γ Ω (tCall (CtF args pre res) [] E ta) (res a) := fun Z F H σ c Q q =>
  h Z F H σ c _ fun vs F1 H1 c1 s1 rs => ⟨a, F1, c1.sub, by rw [List.append_nil]; exact rs, hp, fun v F2 H2 e2 s2 r => q v F2 H2 (c1.step e2 s2) (s1.trans e2) r⟩
theorem ctx_start {Rs : List As} {vs : List V} {N : List Str} (s : Same F H) (h : All F Rs vs) : Ctx ⟨F, H, [], F, []⟩ F H (L2.start N vs) (Rs.map some ++ List.replicate (N.length - Rs.length) none) [] := by
  refine ⟨?_, s, fun _ h => absurd h List.not_mem_nil, List.nodup_nil, fun _ h => absurd h List.not_mem_nil, Ext.refl _ _ _, Same.refl _⟩
  unfold L2.start
  rw [h.length]
  exact sat_start _ h

/-! ## targets -/
def Gt (Γ : Gm) (R : As) (g : TG) (Γ' : Gm) (ws : List Nat) : Prop := ∀ (Z : Bs) (F H : Hp) (σ : St) (v : V) (Ω : Om), Ctx Z F H σ Γ Ω → R.p F v → ∀ Q : St → Hp → Prop,
  (∀ σ', Ctx Z F H σ' Γ' Ω → (∀ vs, (∀ i, i ∈ ws → i ∈ vs) → wipe σ' vs = wipe σ vs) → Q σ' H) → g v σ H Q
def Gts (Γ : Gm) (Rs : List As) (g : TGs) (Γ' : Gm) (ws : List Nat) : Prop := ∀ (Z : Bs) (F H : Hp) (σ : St) (vs : List V) (Ω : Om), Ctx Z F H σ Γ Ω → All F Rs vs → ∀ Q : St → Hp → Prop,
  (∀ σ', Ctx Z F H σ' Γ' Ω → (∀ us, (∀ i, i ∈ ws → i ∈ us) → wipe σ' us = wipe σ us) → Q σ' H) → g vs σ H Q
theorem wipe_set {σ : St} {i : Nat} {s : Option V} : ∀ {vs : List Nat}, i ∈ vs → wipe (σ.set i s) vs = wipe σ vs
  | [], h => absurd h List.not_mem_nil
  | v :: vs, h => by
    show (wipe (σ.set i s) vs).set v none = (wipe σ vs).set v none
    by_cases hi : i ∈ vs
    · rw [wipe_set hi]
    · have e : i = v := by
        rcases List.mem_cons.mp h with q | q
        · exact q
        · exact absurd q hi
      subst e
      have k : ∀ {us : List Nat} {τ : St}, i ∉ us → wipe (τ.set i s) us = (wipe τ us).set i s := fun {us τ} => by
        induction us with
        | nil => intro _; rfl
        | cons u us ih =>
          intro hn
          have h1 : u ≠ i := fun z => hn (by rw [z]; exact List.mem_cons_self)
          have h2 : i ∉ us := fun z => hn (List.mem_cons_of_mem _ z)
          show (wipe (τ.set i s) us).set u none = ((wipe τ us).set u none).set i s
          rw [ih h2, List.set_comm _ _ h1]
      rw [k hi, List.set_set]
theorem gt_name {i : Nat} : Gt Γ R (gName i) (Γ.set i (some R)) [i] := fun Z F H σ v Ω c r Q q => q _ (c.set i r) fun vs h => wipe_set (h i List.mem_cons_self)
theorem gts_nil : Gts Γ [] gNil Γ [] := fun Z F H σ vs Ω c rs Q q => by
  cases vs with
  | nil => exact ⟨rfl, q σ c fun _ _ => rfl⟩
  | cons _ _ => exact rs.elim
theorem gts_cons {t : TG} {u : TGs} {Γ1 Γ2 : Gm} {Rs : List As} {w1 w2 : List Nat} (h : Gt Γ R t Γ1 w1) (h' : Gts Γ1 Rs u Γ2 w2) : Gts Γ (R :: Rs) (gCons t u) Γ2 (w1 ++ w2) := fun Z F H σ vs Ω c rs Q q => by
  cases vs with
  | nil => exact rs.elim
  | cons x xs => exact ⟨x, xs, rfl, h Z F H σ x Ω c rs.1 _ fun σ1 c1 k1 => h' Z F H σ1 xs Ω c1 rs.2 Q fun σ2 c2 k2 => q σ2 c2 fun us hu =>
      (k2 us fun i hi => hu i (List.mem_append_right _ hi)).trans (k1 us fun i hi => hu i (List.mem_append_left _ hi))⟩
theorem gt_tup {n : Nat} {t : TGs} {Rs : List As} {ws : List Nat} (h : Gts Γ Rs t Γ' ws) (hn : Rs.length = n := by rfl) : Gt Γ (Tp K Rs) (gTup K n t) Γ' ws := fun Z F H σ v Ω c r Q q => by
  obtain ⟨a, xs, e, hs, hl⟩ := r
  exact ⟨a, xs, e, same_seqT c.sub hs, hl.length.trans hn, h Z F H σ xs Ω c hl Q q⟩

/-! ## statements -/
variable {n : L2.St → Hp → Prop} {r : VK} {bk ct : L2.St → Hp → Prop} {t1 t2 : TS}
theorem st_asg {g : TG} {ws : List Nat} (c : Ctx Z F H σ Γ Ω) (e : Ev Γ Ω te R) (hg : Gt Γ R g Γ' ws) (k : ∀ F' H' σ', Ctx Z F' H' σ' Γ' Ω → Same F F' → n σ' H') : tAsg te g ⟨n, r, bk, ct⟩ σ H :=
  e Z F H σ c _ fun v F1 H1 c1 s1 rv => hg Z F1 H1 σ v Ω c1 rv _ fun σ' c2 _ => k F1 H1 σ' c2 s1.fe
theorem st_set {i : Nat} (c : Ctx Z F H σ Γ Ω) (e : Ev Γ Ω te R) (k : ∀ F' H' σ', Ctx Z F' H' σ' (Γ.set i (some R)) Ω → Same F F' → n σ' H') : tAsg te (gName i) ⟨n, r, bk, ct⟩ σ H := st_asg c e gt_name k
theorem st_drop (c : Ctx Z F H σ Γ Ω) (e : Ev Γ Ω te R) (k : ∀ F' H', Ctx Z F' H' σ Γ Ω → Same F F' → n σ H') : tDrop te ⟨n, r, bk, ct⟩ σ H := e Z F H σ c _ fun _ F1 H1 c1 s1 _ => k F1 H1 c1 s1.fe
theorem st_ret (c : Ctx Z F H σ Γ Ω) (e : Ev Γ Ω te R) (k : ∀ v F' H', Ctx Z F' H' σ Γ Ω → Same F F' → R.p F' v → r v H') : tRet te ⟨n, r, bk, ct⟩ σ H := e Z F H σ c _ fun v F1 H1 c1 s1 rv => k v F1 H1 c1 s1.fe rv
theorem st_if {b : Bool} (c : Ctx Z F H σ Γ Ω) (e : EvT Γ Ω tt b) (k1 : b = true → ∀ F' H', Ctx Z F' H' σ Γ Ω → Same F F' → t1 ⟨n, r, bk, ct⟩ σ H') (k2 : b = false → ∀ F' H', Ctx Z F' H' σ Γ Ω → Same F F' → t2 ⟨n, r, bk, ct⟩ σ H') : tIfS tt t1 t2 ⟨n, r, bk, ct⟩ σ H :=
  e Z F H σ c _ fun F1 H1 c1 s1 => by
    cases b with
    | true => exact iteT (k1 rfl F1 H1 c1 s1.fe)
    | false => exact iteF (k2 rfl F1 H1 c1 s1.fe)
theorem st_par {i j : Nat} {ta : TA} {R1 R2 : As} (c : Ctx Z F H σ Γ Ω) (e : EvA Γ Ω ta [R1, R2]) (k : ∀ F' H' σ', Ctx Z F' H' σ' ((Γ.set i (some R1)).set j (some R2)) Ω → Same F F' → n σ' H') : tPar i j ta ⟨n, r, bk, ct⟩ σ H :=
  e Z F H σ c _ fun vs F1 H1 c1 s1 rs => by
    match vs, rs with
    | [v, w], ⟨r1, r2, _⟩ => exact ⟨v, w, rfl, k F1 H1 _ ((c1.set i r1).set j r2) s1.fe⟩
theorem st_aug {i : Nat} {ti : TIp} {Rx : As} (c : Ctx Z F H σ Γ Ω) (h : Γ[i]? = some (some Rx)) (e : Ev Γ Ω te Ry) (hr : RV ti Rx Ry R) (k : ∀ F' H' σ', Ctx Z F' H' σ' (Γ.set i (some R)) Ω → Same F F' → n σ' H') : tAug i te ti ⟨n, r, bk, ct⟩ σ H := by
  obtain ⟨x, ex, rx⟩ := c.sat.get h
  exact ⟨x, ex, e Z F H σ c _ fun y F1 H1 c1 s1 ry => hr F1 H1 x y c1.sub (Rx.mono s1.fe rx) ry _ fun v F2 H2 e2 s2 rv => k F2 H2 _ ((c1.step e2 s2).set i rv) (s1.fe.trans e2.fe)⟩
theorem st_while {ι : Type} {tc : TT} {tb : TS} (G : ι → Gm) (O : ι → Om) (P : ι → Prop) (μ : ι → Nat) (b : ι → Bool) (i0 : ι) (c : Ctx Z F H σ (G i0) (O i0)) (p0 : P i0) (ht : ∀ i, P i → EvT (G i) (O i) tc (b i))
    (body : ∀ i F H σ (N : St → Hp → Prop), P i → b i = true → Ctx Z F H σ (G i) (O i) → (∀ j F' H' σ', P j → μ j < μ i → Ctx Z F' H' σ' (G j) (O j) → N σ' H') → tb ⟨N, r, n, N⟩ σ H)
    (hd : ∀ i F H σ, P i → b i = false → Ctx Z F H σ (G i) (O i) → n σ H) : tWhile tc tb ⟨n, r, bk, ct⟩ σ H := by
  refine ⟨fun m σ H => ∃ i F, μ i = m ∧ P i ∧ Ctx Z F H σ (G i) (O i), ⟨_, i0, F, rfl, p0, c⟩, ?_⟩
  rintro m σ H ⟨i, F, rfl, p, c⟩
  refine ht i p Z F H σ c _ fun F1 H1 c1 s1 => ?_
  cases e : b i with
  | true => exact iteT ⟨fun σ' H' => ∃ m', m' < μ i ∧ ∃ j F', μ j = m' ∧ P j ∧ Ctx Z F' H' σ' (G j) (O j), fun σ' H' h => h, body i F1 H1 σ _ p e c1 fun j F' H' σ' pj lt cj => ⟨_, lt, j, F', rfl, pj, cj⟩⟩
  | false => exact iteF (hd i F1 H1 σ p e c1)
theorem st_for {ι α : Type} {tl : TE} {g : TG} {tb : TS} {xs : List α} {f : α → As} (G : ι → Gm) (G' : α → ι → Gm) (O : ι → Om) (P : Nat → ι → Prop) {ws : List Nat} (i0 : ι) (c : Ctx Z F H σ (G i0) (O i0)) (e : Ev (G i0) (O i0) tl (Ls K (xs.map f))) (p0 : P 0 i0)
    (hg : ∀ x i, Gt (G i) (f x) g (G' x i) ws)
    (body : ∀ k x i G1 F H σ (N : St → Hp → Prop), xs[k]? = some x → P k i → Ctx (Z.pin G1) F H σ (G' x i) (O i) → (∀ j F' H' σ', P (k + 1) j → Ctx (Z.pin G1) F' H' σ' (G j) (O j) → N σ' H') → tb ⟨N, r, n, N⟩ σ H)
    (hd : ∀ i F H σ, P xs.length i → Ctx Z F H σ (G i) (O i) → n σ H) : tFor (iList K tl) g tb ⟨n, r, bk, ct⟩ σ H := by
  refine e Z F H σ c _ fun v F1 H1 c1 s1 rv => ?_
  obtain ⟨a, ys, ea, hs, hl⟩ := rv
  have hlen : ys.length = xs.length := by rw [hl.length, List.length_map]
  refine ⟨a, ea, ⟨ys, c1.sub.seq hs⟩, for_list (K := K) (a := a) (xs := ys) (fun k σ H => ∃ i F, P k i ∧ Ctx (Z.pin F1) F H σ (G i) (O i)) ⟨i0, F1, p0, c1.topin (Same.refl _)⟩ (fun k σ H _ ⟨i, F, _, cc⟩ => cc.sub.seq (cc.pin.seq hs)) ?_ ?_⟩
  · rintro k y σ H hy ⟨i, F, p, cc⟩
    have hk : k < xs.length := by rw [← hlen]; exact (List.getElem?_eq_some_iff.mp hy).1
    have hx : xs[k]? = some xs[k] := List.getElem?_eq_getElem hk
    have hz : (xs.map f)[k]? = some (f xs[k]) := by rw [List.getElem?_map, hx]; rfl
    obtain ⟨y', ey, ry⟩ := hl.get hz
    rw [hy] at ey
    cases ey
    refine hg xs[k] i (Z.pin F1) F H σ y (O i) cc ((f xs[k]).mono cc.pin ry) _ fun σ' c' _ => ?_
    exact body k xs[k] i F1 F H σ' _ hx p c' fun j F' H' σ'' pj cj => ⟨j, F', pj, cj⟩
  · rintro σ H ⟨i, F, p, cc⟩
    rw [hlen] at p
    exact hd i F H σ p (cc.unpin c1.pin)
end
end Y

namespace Y
open PySem L2 PySem.Spec
open PyProof.Rows (envOfC)
open C8 (tCut pss_cut)
/-! ## exceptions whose context is None (raised where nothing is handled): the whole chain goes by these -/
abbrev Takes (X : Cx) (W : WX) : Prop := L2N.Takes X W
abbrev PMk (X : Cx) (e : Expr) (t : L2.St → Hp → XK → Prop) : Prop := L2N.PMk X e t
theorem passL {X : Cx} : Passes (L2N.CX X.prog X.w) X E0 := fun _ _ _ _ _ _ _ h => by
  obtain ⟨_, _, _, _, _, _, _, _, _, _, _, _, z⟩ := h
  exact z.elim
theorem takes0 {X : Cx} : Takes X (fun _ _ _ _ => False) := fun _ _ x => by
  obtain ⟨_, _, _, _, _, _, _, _, _, _, _, _, _, _, _, _, z⟩ := x
  exact z.elim
section
variable {P : Program} {w : World} {K : PySem.W.Frag} {mg : Str → Option Value} {base : Heap}
theorem fun_okN {x qual : Str} {st : Stmt} {f : Addr} {fd : FuncData} {N ps : List Str} {k : Nat} {sp : Sp} (F : Fun K x qual st f fd) (S : FnScope N ps (defScope st)) (len : ∀ vs H Q E, sp vs H Q E → vs.length = ps.length)
    (hbody : ∀ (cdv : Value) (A : Around) (outer : List Env) (s : Shared) (H : Hp) (vs : List V) (Q : VK) (E : XK), Room k (A.deeper (envOfC qual (defScope st) s.heap.objs.size f cdv)) → sp vs H Q E →
      ∃ t, PSs (cxOf (L2N.CX P w) P w K mg base N qual (defScope st) f cdv A outer s H E) (defBody st) t ∧ t { nx := fun _ H' => Q .non H', rt := Q } (L2.start N vs) H) : FnOk P w K mg base (L2N.CX P w) (k + 1) f fd ps sp := by
  obtain ⟨oc, od, kV, doc, pm, an, cdv, ct, osl, rfl, lk, hcd⟩ := F.ex
  exact fn_of lk hcd S len fun A outer s H vs Q E hr hsp => hbody cdv A outer s H vs Q E hr hsp
end
section
variable {X : Cx} {x : Str} {c : Value} {body suite : List Stmt} {b₀ : Stmt} {np pos pos' : Pos} {tb : WX → TS} {ts : Addr → Value → Option Addr → TS} {Wout : WX}
/-- try: .. except X: .. -/
theorem ps_tryN (hs : X.stack = X.env :: X.outer) (hf : X.env.frame = some X.env.locals) (hc : Names X x c) (tk : Takes X Wout)
    (hb : ∀ (W : WX) (pn : List (Addr × Obj)) (xe : Value → Shared → Prop), Takes (X.tr pn xe) W → PassesOwn (model X.prog X.w) X.A X.env xe → PSs (X.tr pn xe) body (tb W))
    (hsu : ∀ (a : Addr) (oe : Obj) (cls : Value) (d : Option Addr) (pn : List (Addr × Obj)), L2N.Zn cls d oe → (∃ vs, oe.data = .fields vs) → PSs (X.suite a ((a, oe) :: pn)) (b₀ :: suite) (ts a cls d)) :
    PS X (.Try body [.ExceptHandler (some (.Name x np)) none (b₀ :: suite) pos'] [] [] pos) (fun D σ H => tb (wOnly X.K c ts Wout D) D σ H) :=
  L2N.ps_try_many hs hf tk hb (.cons hc hsu .nil)
end
/-! ## a def of the text, and its promise -/
/-- where the text's def st stands -/
structure Tx (K : PySem.W.Frag) (mg : Str → Option Value) (x : Str) (st : Stmt) (ps : List Str) : Prop where
  ex : ∃ f fd, Fun K x x st f fd ∧ mg x = some (.ref f) ∧ Binds K fd ps []
structure Dn (P : Program) (w : World) (K : PySem.W.Frag) (mg : Str → Option Value) (base : Heap) (k : Nat) (x : Str) (ps : List Str) (sp : Sp) : Prop where
  ex : ∃ f fd, mg x = some (.ref f) ∧ PySem.W.keepIn K (.ref f) = true ∧ Binds K fd ps [] ∧ (∃ oc od osl, K.lookup f = some ⟨oc, od, .func fd, osl⟩) ∧ FnOk P w K mg base (L2N.CX P w) k f fd ps sp
section
variable {P : Program} {w : World} {K : PySem.W.Frag} {mg : Str → Option Value} {base : Heap}
theorem Tx.okX {x : Str} {st : Stmt} {N ps : List Str} {k : Nat} {sp : Sp} (T : Tx K mg x st ps) (S : FnScope N ps (defScope st)) (len : ∀ vs H Q E, sp vs H Q E → vs.length = ps.length)
    (hbody : ∀ (f : Addr) (cdv : Value) (A : Around) (outer : List Env) (s : Shared) (H : Hp) (vs : List V) (Q : VK) (E : XK), Room k (A.deeper (envOfC x (defScope st) s.heap.objs.size f cdv)) → sp vs H Q E →
      ∃ t, PSs (cxOf (L2N.CX P w) P w K mg base N x (defScope st) f cdv A outer s H E) (defBody st) t ∧ t { nx := fun _ H' => Q .non H', rt := Q } (L2.start N vs) H) : Dn P w K mg base (k + 1) x ps sp := by
  obtain ⟨f, fd, F, m, b⟩ := T.ex
  have F' := F
  obtain ⟨oc, od, kV, doc, pm, an, cdv, ct, osl, _, lk, hcd⟩ := F.ex
  exact ⟨f, fd, m, F'.kp, b, ⟨oc, od, osl, lk⟩, fun_okN F' S len (hbody f)⟩
theorem FnOk_x {k : Nat} {f : Addr} {fd : FuncData} {ps : List Str} {sp : Sp} (F : FnOk P w K mg base CX0 k f fd ps sp) : FnOk P w K mg base (L2N.CX P w) k f fd ps sp :=
  ⟨F.len, fun A outer s H args us vs Q E hr he hb hv hs => codeAny_mono (F.run A outer s H args us vs Q E hr he hb hv hs) fun r s' hq => by
    cases r with
    | error e => exact False.elim hq
    | ok fl =>
      cases fl with
      | ret u => exact hq
      | next => exact hq
      | brk => exact hq
      | cont => exact hq⟩
/-- a def that lets nothing out -/
theorem Tx.ok {x : Str} {st : Stmt} {N ps : List Str} {k : Nat} {sp : Sp} (T : Tx K mg x st ps) (S : FnScope N ps (defScope st)) (len : ∀ vs H Q E, sp vs H Q E → vs.length = ps.length)
    (hbody : ∀ (f : Addr) (cdv : Value) (A : Around) (outer : List Env) (s : Shared) (H : Hp) (vs : List V) (Q : VK) (E : XK), Room k (A.deeper (envOfC x (defScope st) s.heap.objs.size f cdv)) → sp vs H Q E →
      ∃ t, PSs (cxOf CX0 P w K mg base N x (defScope st) f cdv A outer s H E).nox (defBody st) t ∧ t { nx := fun _ H' => Q .non H', rt := Q } (L2.start N vs) H) : Dn P w K mg base (k + 1) x ps sp := by
  obtain ⟨f, fd, F, m, b⟩ := T.ex
  have F' := F
  obtain ⟨oc, od, kV, doc, pm, an, cdv, ct, osl, _, lk, hcd⟩ := F.ex
  exact ⟨f, fd, m, F'.kp, b, ⟨oc, od, osl, lk⟩, FnOk_x (F'.ok S len (hbody f))⟩
theorem law_end {k : Nat} {x : Str} {ps : List Str} {sp : Sp} (D : Dn P w K mg base k x ps sp) {f : Addr} {fd : FuncData} {oc : Value} {od : Option Addr} {osl : Array (Option Value)} (m : mg x = some (.ref f)) (l : K.lookup f = some ⟨oc, od, .func fd, osl⟩) :
    FnOk P w K mg base (L2N.CX P w) k f fd ps sp := by
  obtain ⟨f', fd', m', _, _, ⟨oc', od', osl', l'⟩, h⟩ := D.ex
  rw [m] at m'
  cases m'
  rw [l] at l'
  cases l'
  exact h
theorem tx_mk {x : Str} {st : Stmt} {f : Addr} {oc : Value} {od an : Option Addr} {osl : Array (Option Value)} {kV doc pm cdv ct : Value} {ps : List Str} {h : Heap} (X : K.In h) (G : h.Ns mainGlobals mg)
    (a : PySem.W.nsIn K mainGlobals x = some (some (.ref f)))
    (l : K.lookup f = some ⟨oc, od, .func (PySem.W.fnOf x x (defArgs st) (defBody st) (defScope st) .none kV doc pm an cdv ct), osl⟩)
    (c : PySem.W.codeIn K cdv x = true) (k : PySem.W.keepIn K (.ref f) = true)
    (hb : ∀ (kV doc pm : Value) (an : Option Addr) (cdv ct : Value) (us : List Value), us.length = ps.length → bindArgs (PySem.W.fnOf x x (defArgs st) (defBody st) (defScope st) .none kV doc pm an cdv ct) ⟨us, []⟩ = pure (ps.zip us)) : Tx K mg x st ps :=
  ⟨f, _, fun_mk l c k, PySem.W.mg_of X G a, (fun_mk l c k).binds hb⟩
section
variable {X : Cx} {k : Nat} {ps : List Str} {sp : Sp} {x : Str} {p pos : Pos} {e : Expr} {es : List Expr} {t : TA}
theorem pe_d (D : Dn X.prog X.w X.K X.mg X.base k x ps sp) (hr : Room k X.A) (hg : Gl X x) (ha : PA X (e :: es) t) (hdb : (x == ("__debug__" : Str)) = false := by decide)
    (he : starEach (e :: es) X.env = (false, eval e X.env) :: starEach es X.env := by rfl) (hpl : (backTo pos (starEach es X.env)).any (·.1) = false := by rfl) :
    PE X (.Call (.Name x p) (e :: es) [] pos) (tCall sp [] E0 t) := by
  obtain ⟨f, fd, m, kp, b, _, G⟩ := D.ex
  exact pe_call G hr hg m kp b .nil passL ha hdb he hpl
theorem pe_d0 (D : Dn X.prog X.w X.K X.mg X.base k x ps sp) (hr : Room k X.A) (hg : Gl X x) (hdb : (x == ("__debug__" : Str)) = false := by decide) :
    PE X (.Call (.Name x p) [] [] pos) (tCall sp [] E0 tNil) := by
  obtain ⟨f, fd, m, kp, b, _, G⟩ := D.ex
  exact pe_call0 G hr hg m kp b .nil passL hdb
end
section
variable {X : Cx} {k : Nat} {ps : List Str} {sp : Sp} {x : Str} {p pos : Pos} {e : Expr} {es : List Expr} {t : TA} {W : WX}
/-- a call that may raise, in a def (or a try) that lets it out (or takes it) -/
theorem pe_dS (tk : Takes X W) (D : Dn X.prog X.w X.K X.mg X.base k x ps sp) (hr : Room k X.A) (hg : Gl X x) (ha : PA X (e :: es) t) (hdb : (x == ("__debug__" : Str)) = false := by decide)
    (he : starEach (e :: es) X.env = (false, eval e X.env) :: starEach es X.env := by rfl) (hpl : (backTo pos (starEach es X.env)).any (·.1) = false := by rfl) :
    PE X (.Call (.Name x p) (e :: es) [] pos) (tCallS sp (WE W) t) := by
  obtain ⟨f, fd, m, kp, b, _, G⟩ := D.ex
  exact pe_callS G hr hg m kp b (fun σ => L2N.passAt tk σ) ha hdb he hpl
end
end
/-! ## what raises -/
def CtE {α : Type} (args : α → List As) (pre : α → Prop) (res : α → As) (good : α → Prop) (C : Addr) : Sp := fun vs H Q E =>
  ∃ a F, Same F H ∧ All F (args a) vs ∧ pre a ∧ (good a → ∀ v F' H', Ext [] F H F' H' → Same F' H' → (res a).p F' v → Q v H') ∧ (¬ good a → ∀ F' H', Ext [] F H F' H' → Same F' H' → E (.ref C) none H')
theorem CtE.len {α : Type} {args : α → List As} {pre good : α → Prop} {res : α → As} {C : Addr} {n : Nat} (h : ∀ a, (args a).length = n) : ∀ vs H Q E, CtE args pre res good C vs H Q E → vs.length = n := by
  rintro vs H Q E ⟨a, F, _, ha, _⟩
  rw [ha.length, h]
section
variable {Γ : Gm} {Ω : Om} {te ta tb : TE}
theorem ev_callE {α : Type} {args : α → List As} {pre good : α → Prop} {res : α → As} {C : Addr} {E : XK} {ta : TA} (a : α) (h : EvA Γ Ω ta (args a)) (hp : pre a) (hg : good a) : Ev Γ Ω (tCall (CtE args pre res good C) [] E ta) (res a) := fun Z F H σ c Q q =>
  h Z F H σ c _ fun vs F1 H1 c1 s1 rs => ⟨a, F1, c1.sub, by rw [List.append_nil]; exact rs, hp, fun _ v F2 H2 e2 s2 r => q v F2 H2 (c1.step e2 s2) (s1.trans e2) r, fun n => absurd hg n⟩

instance (i j : Int) : Decidable (CPow i j) := inferInstanceAs (Decidable (_ ∧ _ ∧ _))
instance (i j : Int) : Decidable (CMulW i j) := inferInstanceAs (Decidable (_ < _))
instance (i j : Int) : Decidable (CDivW i j) := inferInstanceAs (Decidable (_ ∧ _))
/-- return f(..), f one that may raise -/
theorem st_retE {α : Type} {args : α → List As} {pre good : α → Prop} {res : α → As} {C : Addr} {W : St → XK} {ta : TA} {Z : Bs} {F H : Hp} {σ : L2.St} {n : L2.St → Hp → Prop} {r : VK} {bk ct : L2.St → Hp → Prop} (a : α) (c : Ctx Z F H σ Γ Ω) (h : EvA Γ Ω ta (args a)) (hp : pre a)
    (k1 : good a → ∀ v F' H', Ctx Z F' H' σ Γ Ω → Same F F' → (res a).p F' v → r v H') (k2 : ¬ good a → ∀ F' H', Ctx Z F' H' σ Γ Ω → Same F F' → W σ (.ref C) none H') : tRet (tCallS (CtE args pre res good C) W ta) ⟨n, r, bk, ct⟩ σ H :=
  h Z F H σ c _ fun vs F1 H1 c1 s1 rs => ⟨a, F1, c1.sub, rs, hp, fun g v F2 H2 e2 s2 rv => k1 g v F2 H2 (c1.step e2 s2) (s1.fe.trans e2.fe) rv, fun g F2 H2 e2 s2 => k2 g F2 H2 (c1.step e2 s2) (s1.fe.trans e2.fe)⟩
/-! ## ints in bounds -/
def Bt (n : Nat) (x : Int) : Prop := x.natAbs < 2 ^ n
theorem Bt.up {n m : Nat} {x : Int} (h : Bt n x) (l : n ≤ m) : Bt m x := Nat.lt_of_lt_of_le h (Nat.pow_le_pow_right (by decide) l)
theorem Bt.mul {n m : Nat} {x y : Int} (h : Bt n x) (k : Bt m y) : Bt (n + m) (x * y) := wide_lt h k
theorem Bt.add {n : Nat} {x y : Int} (h : Bt n x) (k : Bt n y) : Bt (n + 1) (x + y) := by
  unfold Bt at *
  rw [Nat.pow_succ]
  omega
theorem Bt.sub {n : Nat} {x y : Int} (h : Bt n x) (k : Bt n y) : Bt (n + 1) (x - y) := by
  unfold Bt at *
  rw [Nat.pow_succ]
  omega
theorem Bt.zero {n : Nat} : Bt n 0 := by unfold Bt; exact Nat.pow_pos (by decide)
theorem Bt.neg {n : Nat} {x : Int} (h : Bt n x) : Bt n (0 - x) := by unfold Bt at *; omega
theorem Bt.le {n : Nat} {x y : Int} (h : Bt n y) (l : x.natAbs ≤ y.natAbs) : Bt n x := Nat.lt_of_le_of_lt l h
theorem Bt.mulW {n m : Nat} {x y : Int} (h : Bt n x) (k : Bt m y) (l : n + m ≤ 900000 := by decide) : CMulW x y := by
  have h' := h.up (Nat.le_succ n)
  have k' := k.up (Nat.le_succ m)
  exact wide_mul h' k' (Nat.succ_pos _) (Nat.succ_pos _) (by omega)
theorem Bt.divW {n : Nat} {x y : Int} (h : 0 < y) (k : Bt n y) (l : n ≤ 8999 := by decide) : CDivW x y := wide_div h (k.up (Nat.le_succ n)) (Nat.succ_pos _) (by omega)

theorem All.one {F : Hp} {R : As} : ∀ {vs : List V}, All F [R] vs → ∃ v, vs = [v] ∧ R.p F v
  | [], h => h.elim
  | [v], h => ⟨v, rfl, h.1⟩
  | _ :: _ :: _, h => h.2.elim
theorem All.two {F : Hp} {R R' : As} : ∀ {vs : List V}, All F [R, R'] vs → ∃ v w, vs = [v, w] ∧ R.p F v ∧ R'.p F w
  | [], h => h.elim
  | [_], h => h.2.elim
  | [v, w], h => ⟨v, w, rfl, h.1, h.2.1⟩
  | _ :: _ :: _ :: _, h => h.2.2.elim
theorem Bt.divP {n : Nat} {x y : Int} (h : 0 < y) (k : Bt n y) (l : n ≤ 8999 := by decide) : CDivP x y := ⟨h, PyProof.noPylong_of_log2 (Bt.divW (x := x) h k l).2⟩
/-! ## built-ins by values -/
theorem rc_abs {n : Int} : RC (fun xs H Q => ∃ i, xs = [.int i] ∧ Q (.int (if i < 0 then -i else i)) H) [I n] (I (n.natAbs : Int)) := fun F H vs s h Q q => by
    obtain ⟨v, rfl, e⟩ := h.one
    cases e
    refine ⟨n, rfl, ?_⟩
    have z : (if n < 0 then -n else n) = (n.natAbs : Int) := by split <;> omega
    rw [z]
    exact q _ F H (Ext.refl _ _ _) s rfl
theorem rc_lenL {K : PySem.W.Frag} {Rs : List As} : RC (fun xs H Q => ∃ p ys, xs = [.ref p] ∧ (SqL K H p ys ∨ SqT K H p ys) ∧ Q (.int ys.length) H) [Ls K Rs] (I (Rs.length : Int)) := fun F H vs s h Q q => by
    obtain ⟨v, rfl, a, xs, e, hs, hl⟩ := h.one
    cases e
    have z := hl.length
    exact ⟨a, xs, rfl, .inl (s.seq hs), by rw [z]; exact q _ F H (Ext.refl _ _ _) s rfl⟩
theorem rc_lenT {K : PySem.W.Frag} {Rs : List As} : RC (fun xs H Q => ∃ p ys, xs = [.ref p] ∧ (SqL K H p ys ∨ SqT K H p ys) ∧ Q (.int ys.length) H) [Tp K Rs] (I (Rs.length : Int)) := fun F H vs s h Q q => by
    obtain ⟨v, rfl, a, xs, e, hs, hl⟩ := h.one
    cases e
    have z := hl.length
    exact ⟨a, xs, rfl, .inr (same_seqT s hs), by rw [z]; exact q _ F H (Ext.refl _ _ _) s rfl⟩
theorem rc_divmod {K : PySem.W.Frag} {C : Int → Int → Prop} {i j : Int} (h : C i j) : RC (fun xs H Q => ∃ i j, xs = [.int i, .int j] ∧ C i j ∧ ∀ p, H p = none → Q (.ref p) (upd H p (.tup [.int (i / j), .int (i % j)]))) [I i, I j] (Tp K [I (i / j), I (i % j)]) := fun F H vs s hv Q q => by
    obtain ⟨v, w, rfl, e, e'⟩ := hv.two
    cases e; cases e'
    refine ⟨i, j, rfl, h, fun p hp => ?_⟩
    obtain ⟨e, s'⟩ := Ext.new (o := .tup [.int (i / j), .int (i % j)]) s hp
    exact q _ _ _ e s' ⟨p, _, rfl, SqT.of upd_same, rfl, rfl, trivial⟩
/-! isinstance -/
/-- the type of what an assertion tells of -/
structure HasTy (K : PySem.W.Frag) (R : As) (t : Value) : Prop where
  ty : ∀ F H v, Same F H → R.p F v → TyX K H v t
theorem ty_int {K : PySem.W.Frag} {n : Int} : HasTy K (I n) (.type "int") := ⟨fun F H v s e => by cases e; exact .base (.int n)⟩
theorem ty_bool {K : PySem.W.Frag} {n : Bool} : HasTy K (B n) (.type "bool") := ⟨fun F H v s e => by cases e; exact .base (.bl n)⟩
theorem ty_tup {K : PySem.W.Frag} {Rs : List As} : HasTy K (Tp K Rs) (.type "tuple") := ⟨fun F H v s e => by
  obtain ⟨a, xs, e, hs, _⟩ := e
  cases e
  rcases hs with (h | ⟨o, h⟩) | ⟨o, its, n, h, hc, _⟩
  · exact .base (.tup (s _ _ h))
  · exact .fTuple (s _ _ h)
  · exact .kTuple h hc⟩
theorem ty_lst {K : PySem.W.Frag} {Rs : List As} : HasTy K (Ls K Rs) (.type "list") := ⟨fun F H v s e => by
  obtain ⟨a, xs, e, hs, _⟩ := e
  cases e
  rcases hs with (h | ⟨o, h⟩) | ⟨o, its, n, h, hc, _⟩
  · exact .base (.lst (s _ _ h))
  · exact .base (.frz (s _ _ h))
  · exact .kList h hc⟩
theorem rc_isi {K : PySem.W.Frag} {R : As} {t u : Value} {c : V} {b : Bool} (hc : ClsV c u) (ht : HasTy K R t) (hk : PySem.W.kitOne K t u = some b) : RC (rIsi K) [R, Cst c] (B b) := fun F H vs s h Q q => by
    obtain ⟨x, y, rfl, r, e⟩ := h.two
    cases e
    exact ⟨x, c, t, u, b, rfl, hc, ht.ty F H x s r, hk, q _ F H (Ext.refl _ _ _) s rfl⟩

theorem rc_list {K : PySem.W.Frag} {Rs : List As} : RC (fun xs H Q => ∃ p ys, xs = [.ref p] ∧ (SqL K H p ys ∨ SqT K H p ys) ∧ ∀ l, H l = none → Q (.ref l) (upd H l (.lst ys))) [Ls K Rs] (Ls K Rs) := fun F H vs s h Q q => by
  obtain ⟨v, rfl, a, xs, e, hs, hl⟩ := h.one
  cases e
  refine ⟨a, xs, rfl, .inl (s.seq hs), fun p hp => ?_⟩
  obtain ⟨e, s'⟩ := Ext.new (o := .lst xs) s hp
  exact q _ _ _ e s' ⟨p, _, rfl, SqL.of upd_same, hl.mono e.fe⟩
/-! pairs of ints, fractions -/
def Fr (K : PySem.W.Frag) (q : Int × Int) : As := Tp K [I q.1, I q.2]
theorem ev_fr {K : PySem.W.Frag} {ta : TA} {a b : Int} (h : EvA Γ Ω ta [I a, I b]) : Ev Γ Ω (tTup ta) (Fr K (a, b)) := ev_tup h (show 2 ≤ 1000 by decide)
theorem ty_fr {K : PySem.W.Frag} {q : Int × Int} : HasTy K (Fr K q) (.type "tuple") := ty_tup
theorem rc_lenF {K : PySem.W.Frag} {q : Int × Int} : RC (fun xs H Q => ∃ p ys, xs = [.ref p] ∧ (SqL K H p ys ∨ SqT K H p ys) ∧ Q (.int ys.length) H) [Fr K q] (I 2) := rc_lenT
/-! tests by chains -/
theorem ev_chain {p1 p2 : Int → Int → Bool} {i j k : Int} {tc : TE} (ha : Ev Γ Ω ta (I i)) (hb : Ev Γ Ω tb (I j)) (hc : Ev Γ Ω tc (I k)) : Ev Γ Ω (tChain (rI0 fun i j => .bl (p1 i j)) (rI0 fun i j => .bl (p2 i j)) ta tb tc) (B (p1 i j && p2 j k)) := fun Z F H σ c Q q =>
  ha Z F H σ c _ fun x F1 H1 c1 s1 rx => hb Z F1 H1 σ c1 _ fun y F2 H2 c2 s2 ry => by
    cases rx; cases ry
    refine ⟨i, j, rfl, rfl, p1 i j, rfl, ?_⟩
    cases e : p1 i j with
    | true =>
      refine iteT (hc Z F2 H2 σ c2 _ fun z F3 H3 c3 s3 rz => ?_)
      cases rz
      exact ⟨j, k, rfl, rfl, q _ F3 H3 c3 (s1.trans (s2.trans s3)) (show V.bl (p2 j k) = V.bl (p1 i j && p2 j k) by rw [e]; rfl)⟩
    | false => exact iteF (q _ F2 H2 c2 (s1.trans s2) (show V.bl false = V.bl (p1 i j && p2 j k) by rw [e]; rfl))
theorem et_chain {p1 p2 : Int → Int → Bool} {i j k : Int} {tc : TE} (ha : Ev Γ Ω ta (I i)) (hb : Ev Γ Ω tb (I j)) (hc : Ev Γ Ω tc (I k)) : EvT Γ Ω (tTest (tChain (rI0 fun i j => .bl (p1 i j)) (rI0 fun i j => .bl (p2 i j)) ta tb tc)) (p1 i j && p2 j k) := et_test (ev_chain ha hb hc)
end
/-! ## blocks -/
section
variable {Z : Bs} {F H F' H' : Hp} {σ σ' : L2.St} {Γ Γ' : Gm} {Ω Ω' : Om} {K : PySem.W.Frag} {n : L2.St → Hp → Prop} {r : VK} {bk ct : L2.St → Hp → Prop} {t1 t2 : TS}
theorem sq (h : t1 ⟨t2 ⟨n, r, bk, ct⟩, r, bk, ct⟩ σ H) : tSeq t1 t2 ⟨n, r, bk, ct⟩ σ H := h
theorem cut {ι : Type} (c : Ctx Z F H σ Γ Ω) (G : ι → Gm) (O : ι → Om) (P : ι → Prop) (h1 : ∀ N : L2.St → Hp → Prop, (∀ i F' H' σ', P i → Ctx Z F' H' σ' (G i) (O i) → N σ' H') → t1 ⟨N, r, bk, ct⟩ σ H) (h2 : ∀ i F' H' σ', P i → Ctx Z F' H' σ' (G i) (O i) → t2 ⟨n, r, bk, ct⟩ σ' H') : tCut t1 t2 ⟨n, r, bk, ct⟩ σ H :=
  ⟨fun σ H => ∃ i F, P i ∧ Ctx Z F H σ (G i) (O i), h1 _ fun i F' H' σ' p c => ⟨i, F', p, c⟩, fun σ H ⟨i, F, p, c⟩ => h2 i F H σ p c⟩
/-- what is known of a slot is some member of a family -/
theorem Ctx.opn {β : Type} {P : β → Prop} {R : β → As} (c : Ctx Z F H σ Γ Ω) (i : Nat) (h : Γ[i]? = some (some (Xs P R))) : ∃ b, P b ∧ Ctx Z F H σ (Γ.set i (some (R b))) Ω := by
  obtain ⟨v, e, b, hp, hr⟩ := c.sat.get h
  have z := c.set i hr
  have e2 : σ.set i (some v) = σ := by
    apply List.ext_getElem?
    intro j
    by_cases hj : i = j
    · subst hj
      rw [List.getElem?_set_self (by have := (List.getElem?_eq_some_iff.mp e).1; exact this), e]
    · rw [List.getElem?_set_ne hj]
  rw [e2] at z
  exact ⟨b, hp, z⟩
theorem nxt (q : n σ H) : tNext ⟨n, r, bk, ct⟩ σ H := q
/-- an error of the text's own, made with a text -/
structure Xc (K : PySem.W.Frag) (mg : Str → Option Value) (C : Addr) (x : Str) : Prop where
  gC : mg x = some (.ref C)
  ex : PySem.W.excIn K C [.type "ValueError", .type "Exception", .type "BaseException", .type "object"] "ValueError.__new__" = true
  kC : PySem.W.keepIn K (.ref C) = true
  sB : PySem.W.subIn K (.ref C) (.type "BaseException") = some true
  tC : PySem.W.typeIn K (.ref C) = some (.type "type")
  iC : PySem.W.isClsIn K C = true
  sC : PySem.W.subIn K (.ref C) (.ref C) = some true
/-- an except clause that names an error's own class takes it -/
theorem exm_own {K : PySem.W.Frag} {S T : Addr} {b : Bool} (h1 : PySem.W.subIn K (.ref S) (.type "BaseException") = some true) (h1' : PySem.W.subIn K (.ref T) (.type "BaseException") = some true) (h2 : PySem.W.isClsIn K T = true) (h3 : PySem.W.typeIn K (.ref T) = some (.type "type")) (h4 : PySem.W.subIn K (.ref S) (.ref T) = some b) :
    PySem.W.exmOne K (.ref S) (.ref T) = some b := by
  have e1 : (PySem.W.subIn K (.ref T) (.type "BaseException") == some true) = true := by rw [h1'] <;> rfl
  have e2 : ((PySem.W.clsIn K T).isSome && PySem.W.typeIn K (.ref T) == some (.type "type")) = true := by
    have h2' : (PySem.W.clsIn K T).isSome = true := h2
    rw [h2', h3] <;> rfl
  show (if (PySem.W.subIn K (.ref T) (.type "BaseException") == some true) = true then (if ((PySem.W.clsIn K T).isSome && PySem.W.typeIn K (.ref T) == some (.type "type")) = true then PySem.W.subIn K (.ref S) (.ref T) else none) else none) = some b
  rw [if_pos e1, if_pos e2]
  exact h4
theorem st_tryset {α : Type} {args : α → List As} {pre good : α → Prop} {res : α → As} {C : Addr} {cl : Value} {ta : TA} {ts : Addr → Value → Option Addr → TS} {Wout : WX} {i : Nat} (a : α) (c : Ctx Z F H σ Γ Ω) (h : EvA Γ Ω ta (args a)) (hp : pre a) (te : PySem.W.exmOne K (.ref C) cl = some true)
    (k1 : good a → ∀ F' H' σ', Ctx Z F' H' σ' (Γ.set i (some (res a))) Ω → Same F F' → n σ' H') (k2 : ¬ good a → ∀ a0 F' H', Ctx Z F' H' σ Γ Ω → Same F F' → ts a0 (.ref C) none ⟨n, r, bk, ct⟩ σ H') :
    tAsg (tCallS (CtE args pre res good C) (WE (wOnly K cl ts Wout ⟨n, r, bk, ct⟩)) ta) (gName i) ⟨n, r, bk, ct⟩ σ H :=
  h Z F H σ c _ fun vs F1 H1 c1 s1 rs => ⟨a, F1, c1.sub, rs, hp, fun g v F2 H2 e2 s2 rv => k1 g F2 H2 _ ((c1.step e2 s2).set i rv) (s1.fe.trans e2.fe), fun g F2 H2 e2 s2 => ⟨true, te, fun _ a0 _ => k2 g a0 F2 H2 (c1.step e2 s2) (s1.fe.trans e2.fe), fun z => Bool.noConfusion z⟩⟩
end
theorem ev_k {Γ : Gm} {Ω : Om} {te : TE} {m n : Int} (h : Ev Γ Ω te (I m)) (e : m = n) : Ev Γ Ω te (I n) := e ▸ h
/-! ## the law -/
def LawSp (K : PySem.W.Frag) : Sp := CtF (fun ns : List Int => [Ls K (ns.map fun n => I n)]) (fun ns => ns.length ≤ 63) (fun _ => B true)
theorem all_ints {F : Hp} : ∀ ns : List Int, All F (ns.map fun n => I n) (ns.map V.int)
  | [] => trivial
  | _ :: r => ⟨rfl, all_ints r⟩
theorem law_start {K : PySem.W.Frag} {H : Hp} {a : Addr} {ns : List Int} (hl : ns.length ≤ 63) (hS : SqL K H a (ns.map V.int)) : LawSp K [.ref a] H (fun v _ => v = .bl true) (fun _ _ _ => False) :=
  ⟨ns, H, Same.refl H, ⟨⟨a, _, rfl, hS, all_ints ns⟩, trivial⟩, hl, fun v F' H' _ _ r => r⟩
end Y

namespace Y
open PySem L2
theorem gcd_turn {x y : Int} (hx : 0 ≤ x) (hy : 0 < y) : Int.gcd y (x % y) = Int.gcd x y := by
  obtain ⟨a, rfl⟩ := Int.eq_ofNat_of_zero_le hx
  obtain ⟨b, rfl⟩ := Int.eq_ofNat_of_zero_le (Int.le_of_lt hy)
  show Nat.gcd b (a % b) = Nat.gcd a b
  rw [Nat.gcd_comm b (a % b), ← Nat.gcd_rec, Nat.gcd_comm]
/-- the cell that a law draws by -/
def cell (ns : List Int) (k : Int) : Int := if k < (ns.length : Int) then ns.getD k.toNat 0 else 0
theorem atI_ints {ns : List Int} {k : Int} (h0 : 0 ≤ k) (h : k < (ns.length : Int)) : atI (ns.map fun n => I n) k = some (I (cell ns k)) := by
  have hk : k.toNat < ns.length := by omega
  have ek : k = ((k.toNat : Nat) : Int) := by omega
  have z : cell ns k = ns[k.toNat] := by
    unfold cell
    rw [if_pos h, List.getD_eq_getElem?_getD, List.getElem?_eq_getElem hk]; rfl
  rw [z]
  generalize hj : k.toNat = j at hk ek
  subst ek
  refine (atI_nat (xs := ns.map fun n => I n) (by rw [List.getElem?_map, List.getElem?_eq_getElem hk]; rfl)).trans ?_
  simp only [hj]
theorem bt_one (n : Nat) : Bt (n + 1) 1 := Nat.one_lt_two_pow (Nat.succ_ne_zero n)
theorem gcd_bt {x y : Int} {n : Nat} (h : Bt n y) (hy : y ≠ 0) : Bt n (Int.gcd x y : Int) := by
  have e := Nat.le_of_dvd (Int.natAbs_pos.mpr hy) (Int.natAbs_dvd_natAbs.mpr (Int.gcd_dvd_right x y))
  exact h.le e
theorem gcd_pos {x y : Int} (hy : y ≠ 0) : (0 : Int) < (Int.gcd x y : Int) := by
  have : Int.gcd x y ≠ 0 := fun e => hy (Int.gcd_eq_zero_iff.mp e).2
  omega
/-! fractions: a fraction is the rational number that it tells -/
def Fq (K : PySem.W.Frag) (r : Rat) : As := Fr K (r.num, (r.den : Int))
theorem ty_fq {K : PySem.W.Frag} {r : Rat} : HasTy K (Fq K r) (.type "tuple") := ty_tup
theorem rc_lenQ {K : PySem.W.Frag} {r : Rat} : RC (fun xs H Q => ∃ p ys, xs = [.ref p] ∧ (SqL K H p ys ∨ SqT K H p ys) ∧ Q (.int ys.length) H) [Fq K r] (I 2) := rc_lenT
def Sz (r : Rat) : Prop := Bt 4400 r.num ∧ Bt 4400 (r.den : Int)
theorem fr_of (t b : Int) (hb : 0 < b) : (t / (Int.gcd t b : Int), b / (Int.gcd t b : Int)) = ((Rat.divInt t b).num, ((Rat.divInt t b).den : Int)) := by
  have h1 : (Rat.divInt t b).num = t / (Int.gcd t b : Int) := by rw [Rat.num_divInt, Int.sign_eq_one_of_pos hb, Int.one_mul, Int.gcd_comm]
  have h2 : ((Rat.divInt t b).den : Int) = b / (Int.gcd t b : Int) := by
    rw [Rat.den_divInt, if_neg (by omega), Int.gcd_comm]
    rw [Int.natCast_ediv, Int.natAbs_of_nonneg (by omega)]
  rw [h1, h2]
theorem fr_neg (t b : Int) (hb : b < 0) : ((0 - t) / (Int.gcd (0 - t) (0 - b) : Int), (0 - b) / (Int.gcd (0 - t) (0 - b) : Int)) = ((Rat.divInt t b).num, ((Rat.divInt t b).den : Int)) := by
  have e : Rat.divInt t b = Rat.divInt (0 - t) (0 - b) := by rw [Int.zero_sub, Int.zero_sub, Rat.neg_divInt_neg]
  rw [e]
  exact fr_of _ _ (by omega)
theorem r_den0 (a : Rat) : (a.den : Int) ≠ 0 := by have := a.den_nz; omega
theorem r_den1 (a : Rat) : (0 : Int) < a.den := by have := a.den_nz; omega
theorem r_add (a b : Rat) : Rat.divInt (a.num * b.den + b.num * a.den) (a.den * b.den) = a + b := by
  have := Rat.divInt_add_divInt a.num b.num (r_den0 a) (r_den0 b)
  rw [← this, Rat.num_divInt_den, Rat.num_divInt_den]
theorem r_sub (a b : Rat) : Rat.divInt (a.num * b.den - b.num * a.den) (a.den * b.den) = a - b := by
  have := Rat.divInt_sub_divInt a.num b.num (r_den0 a) (r_den0 b)
  rw [← this, Rat.num_divInt_den, Rat.num_divInt_den]
theorem r_mul (a b : Rat) : Rat.divInt (a.num * b.num) (a.den * b.den) = a * b := by
  have := Rat.divInt_mul_divInt a.num b.num (d₁ := a.den) (d₂ := b.den)
  rw [← this, Rat.num_divInt_den, Rat.num_divInt_den]
theorem r_div (a b : Rat) : Rat.divInt (a.num * b.den) (a.den * b.num) = a / b := by
  have := Rat.divInt_mul_divInt a.num b.den (d₁ := a.den) (d₂ := b.num)
  rw [← this, Rat.num_divInt_den, Rat.div_def]
  congr 1
  rw [Rat.inv_def]
theorem r_lt (a b : Rat) : decide (a.num * b.den < b.num * a.den) = decide (a < b) := by simp [Rat.lt_iff]
theorem r_cross {t b : Int} (hb : b ≠ 0) : (Rat.divInt t b).num * b = t * ((Rat.divInt t b).den : Int) := (Rat.divInt_eq_divInt_iff (r_den0 _) hb).mp (Rat.num_divInt_den _)
theorem r_red (a : Rat) : Int.gcd a.num a.den = 1 := a.reduced
theorem Sz.int {n : Int} (h : Bt 4400 n) : Sz (n : Rat) := ⟨h, by show Bt 4400 1; unfold Bt; exact Nat.one_lt_two_pow (by decide)⟩
theorem bt_num {n : Nat} {t b : Int} (h : Bt n t) (hb : b ≠ 0) : Bt n (Rat.divInt t b).num := by
  rcases Int.lt_or_gt_of_ne hb with hn | hn
  · have e := congrArg Prod.fst (fr_neg t b hn)
    dsimp only at e
    rw [← e]
    exact h.neg.le (Int.natAbs_ediv_le_natAbs _ _)
  · have e := congrArg Prod.fst (fr_of t b hn)
    dsimp only at e
    rw [← e]
    exact h.le (Int.natAbs_ediv_le_natAbs _ _)
theorem bt_den {n : Nat} {t b : Int} (h : Bt n b) (hb : b ≠ 0) : Bt n ((Rat.divInt t b).den : Int) := by
  rcases Int.lt_or_gt_of_ne hb with hn | hn
  · have e := congrArg Prod.snd (fr_neg t b hn)
    dsimp only at e
    rw [← e]
    exact h.neg.le (Int.natAbs_ediv_le_natAbs _ _)
  · have e := congrArg Prod.snd (fr_of t b hn)
    dsimp only at e
    rw [← e]
    exact h.le (Int.natAbs_ediv_le_natAbs _ _)
/-- what a law builds: some fraction, not too long -/
def Bq (n : Nat) (r : Rat) : Prop := Bt n r.num ∧ Bt n (r.den : Int)
theorem Bq.sz {n : Nat} {r : Rat} (h : Bq n r) (l : n ≤ 4400 := by decide) : Sz r := ⟨h.1.up l, h.2.up l⟩
theorem Bq.up {n m : Nat} {r : Rat} (h : Bq n r) (l : n ≤ m := by decide) : Bq m r := ⟨h.1.up l, h.2.up l⟩
theorem Bq.add {n m : Nat} {a b : Rat} (h : Bq n a) (k : Bq m b) : Bq (n + m + 1) (a + b) := by
  rw [← r_add]
  have z : (a.den : Int) * b.den ≠ 0 := Int.mul_ne_zero (r_den0 a) (r_den0 b)
  have e := k.1.mul h.2
  rw [Nat.add_comm] at e
  exact ⟨bt_num ((h.1.mul k.2).add e) z, bt_den ((h.2.mul k.2).up (Nat.le_succ _)) z⟩
theorem Bq.sub {n m : Nat} {a b : Rat} (h : Bq n a) (k : Bq m b) : Bq (n + m + 1) (a - b) := by
  rw [← r_sub]
  have z : (a.den : Int) * b.den ≠ 0 := Int.mul_ne_zero (r_den0 a) (r_den0 b)
  have e := k.1.mul h.2
  rw [Nat.add_comm] at e
  exact ⟨bt_num ((h.1.mul k.2).sub e) z, bt_den ((h.2.mul k.2).up (Nat.le_succ _)) z⟩
theorem Bq.mul {n m : Nat} {a b : Rat} (h : Bq n a) (k : Bq m b) : Bq (n + m) (a * b) := by
  rw [← r_mul]
  have z : (a.den : Int) * b.den ≠ 0 := Int.mul_ne_zero (r_den0 a) (r_den0 b)
  exact ⟨bt_num (h.1.mul k.1) z, bt_den (h.2.mul k.2) z⟩
theorem Bq.div {n m : Nat} {a b : Rat} (h : Bq n a) (k : Bq m b) (hb : b ≠ 0) : Bq (n + m) (a / b) := by
  rw [← r_div]
  have z : (a.den : Int) * b.num ≠ 0 := Int.mul_ne_zero (r_den0 a) (fun e => hb (Rat.num_eq_zero.mp e))
  exact ⟨bt_num (h.1.mul k.2) z, bt_den (h.2.mul k.1) z⟩
def Sq (K : PySem.W.Frag) (n : Nat) : As := Xs (Bq n) (Fq K)
theorem sq_of {K : PySem.W.Frag} {n : Nat} {r : Rat} {F : Hp} {v : V} (h : (Fq K r).p F v) (b : Bq n r) : (Sq K n).p F v := ⟨r, b, h⟩
/-- a fraction handed out of two ints -/
theorem ev_fq {Γ : Gm} {Ω : Om} {K : PySem.W.Frag} {te : TE} {a b : Int} {r : Rat} (h : Ev Γ Ω te (Fr K (a, b))) (e : (a, b) = (r.num, (r.den : Int))) : Ev Γ Ω te (Fq K r) := by
  unfold Fq
  rw [← e]
  exact h
theorem ev_frI {Γ : Gm} {Ω : Om} {K : PySem.W.Frag} {ta : TA} {a : Int} (h : EvA Γ Ω ta [I a, I 1]) : Ev Γ Ω (tTup ta) (Fq K (a : Rat)) := ev_fr h
/-- the same fraction with the other sign -/
theorem fq_neg {K : PySem.W.Frag} {Γ : Gm} {Ω : Om} {te : TE} {x : Rat} (h : Ev Γ Ω te (Fr K (0 - x.num, (x.den : Int)))) : Ev Γ Ω te (Fq K (-x)) := ev_fq h (by
  rw [Int.zero_sub]; rfl)
theorem Bq.neg {n : Nat} {x : Rat} (h : Bq n x) : Bq n (-x) := ⟨by
  have e := h.1.neg
  rw [Int.zero_sub] at e; exact e, h.2⟩
theorem Bq.zero {n : Nat} : Bq (n + 1) 0 := ⟨Bt.zero, bt_one n⟩
end Y

namespace Y
open PySem L2
/-! ## lists: those that stand still, those that are owned -/
/-- what an owned list is known to hold -/
structure RdL (A : OA) (Rs : List As) : Prop where
  rd : ∀ F o, A.p F o → ∃ xs, o = .lst xs ∧ All F Rs xs
theorem rdL {Rs : List As} : RdL (oL Rs) Rs := ⟨fun _ _ h => h⟩
/-- just these values -/
def oX (xs : List V) (Rs : List As) : OA := ⟨fun F o => o = .lst xs ∧ All F Rs xs, fun s h => ⟨h.1, h.2.mono s⟩⟩
theorem rdX {xs : List V} {Rs : List As} : RdL (oX xs Rs) Rs := ⟨fun _ _ h => ⟨xs, h.1, h.2⟩⟩
def cutA (Rs : List As) (lo hi : Option Int) : List As := (Rs.drop (HT.sIx Rs.length 0 lo)).take (HT.sIx Rs.length Rs.length hi - HT.sIx Rs.length 0 lo)
theorem All.drop {F : Hp} : ∀ (n : Nat) {Rs : List As} {xs : List V}, All F Rs xs → All F (Rs.drop n) (xs.drop n)
  | 0, _, _, h => h
  | n + 1, [], [], _ => trivial
  | n + 1, _ :: _, _ :: _, h => All.drop n h.2
  | _ + 1, [], _ :: _, h => h.elim
  | _ + 1, _ :: _, [], h => h.elim
theorem All.take {F : Hp} : ∀ (n : Nat) {Rs : List As} {xs : List V}, All F Rs xs → All F (Rs.take n) (xs.take n)
  | 0, _, _, _ => trivial
  | n + 1, [], [], _ => trivial
  | n + 1, _ :: _, _ :: _, h => ⟨h.1, All.take n h.2⟩
  | _ + 1, [], _ :: _, h => h.elim
  | _ + 1, _ :: _, [], h => h.elim
theorem All.rev {F : Hp} : ∀ {Rs : List As} {xs : List V}, All F Rs xs → All F Rs.reverse xs.reverse
  | [], [], _ => trivial
  | R :: Rs, x :: xs, h => by
    rw [List.reverse_cons, List.reverse_cons]
    exact All.app (All.rev h.2) ⟨h.1, trivial⟩
  | [], _ :: _, h => h.elim
  | _ :: _, [], h => h.elim
section
variable {Z : Bs} {F H F' H' : Hp} {σ σ' : L2.St} {Γ Γ' : Gm} {Ω Ω' : Om} {K : PySem.W.Frag} {te ta tb : TE} {R Rx Ry : As} {Rs Ss : List As}
/-- an expression whose value is a list of such -/
def Lk (K : PySem.W.Frag) (Γ : Gm) (Ω : Om) (te : TE) (Rs : List As) : Prop := ∀ (Z : Bs) (F H : Hp) (σ : L2.St), Ctx Z F H σ Γ Ω → ∀ Q : VK, (∀ a F' H', Ctx Z F' H' σ Γ Ω → Ext [] F H F' H' → (∀ F2 H2, Ctx Z F2 H2 σ Γ Ω → Same F' F2 → ∃ xs, SqL K H2 a xs ∧ All F2 Rs xs) → Q (.ref a) H') → te σ H Q
theorem lk (h : Ev Γ Ω te (Ls K Rs)) : Lk K Γ Ω te Rs := fun Z F H σ c Q q => h Z F H σ c Q fun v F1 H1 c1 s1 r => by
  obtain ⟨a, xs, e, hs, hl⟩ := r
  subst e
  exact q a F1 H1 c1 s1 fun F2 H2 c2 s2 => ⟨xs, c2.sub.seq (s2.seq hs), hl.mono s2⟩
theorem lko {p : Addr} {A : OA} {j : Nat} (h : Ev Γ Ω te (Rf p)) (hm : Ω[j]? = some (p, A)) (hA : RdL A Rs) : Lk K Γ Ω te Rs := fun Z F H σ c Q q => h Z F H σ c Q fun v F1 H1 c1 s1 r => by
  cases r
  refine q p F1 H1 c1 s1 fun F2 H2 c2 s2 => ?_
  obtain ⟨_, o, h2, hp⟩ := c2.own _ (List.mem_of_getElem? hm)
  obtain ⟨xs, e, hl⟩ := hA.rd _ _ hp
  exact ⟨xs, SqL.of (by rw [h2, e]), hl⟩
theorem ev_ixLk {i : Int} (ha : Lk K Γ Ω ta Rs) (hb : Ev Γ Ω tb (I i)) (h : atI Rs i = some R) : Ev Γ Ω (tOp (rIxL K) ta tb) R := fun Z F H σ c Q q =>
  ha Z F H σ c _ fun a F1 H1 c1 s1 hs => hb Z F1 H1 σ c1 _ fun y F2 H2 c2 s2 ry => by
    obtain ⟨xs, hs2, hl⟩ := hs F2 H2 c2 s2.fe
    obtain ⟨v, e1, r⟩ := atI_all hl h
    exact ⟨a, xs, i, v, rfl, ry, hs2, e1, q v F2 H2 c2 (s1.trans s2) r⟩
theorem ev_lenLk (ha : Lk K Γ Ω ta Rs) : Ev Γ Ω (tCB (fun xs H Q => ∃ p ys, xs = [.ref p] ∧ (SqL K H p ys ∨ SqT K H p ys) ∧ Q (.int ys.length) H) (tCons ta tNil)) (I (Rs.length : Int)) := fun Z F H σ c Q q =>
  ha Z F H σ c _ fun a F1 H1 c1 s1 hs => by
    obtain ⟨xs, hs1, hl⟩ := hs F1 H1 c1 (Same.refl _)
    refine ⟨a, xs, rfl, .inl hs1, ?_⟩
    rw [hl.length]
    exact q _ F1 H1 c1 s1 rfl
theorem new_ls {p : Addr} {xs : List V} (c : Ctx Z F H σ Γ Ω) (hl : All F Rs xs) (hp : H p = none) : ∃ F' H', H' = upd H p (.lst xs) ∧ Ctx Z F' H' σ Γ Ω ∧ Ext [] F H F' H' ∧ (Ls K Rs).p F' (.ref p) := by
  obtain ⟨e, s⟩ := Ext.new (o := .lst xs) c.sub hp
  exact ⟨_, _, rfl, c.step e s, e, p, xs, rfl, SqL.of upd_same, hl.mono e.fe⟩
theorem ev_listLk (ha : Lk K Γ Ω ta Rs) : Ev Γ Ω (tCB (fun xs H Q => ∃ p ys, xs = [.ref p] ∧ (SqL K H p ys ∨ SqT K H p ys) ∧ ∀ l, H l = none → Q (.ref l) (upd H l (.lst ys))) (tCons ta tNil)) (Ls K Rs) := fun Z F H σ c Q q =>
  ha Z F H σ c _ fun a F1 H1 c1 s1 hs => by
    obtain ⟨xs, hs1, hl⟩ := hs F1 H1 c1 (Same.refl _)
    refine ⟨a, xs, rfl, .inl hs1, fun p hp => ?_⟩
    obtain ⟨F2, H2, e, c2, s2, r⟩ := new_ls (K := K) c1 hl hp
    rw [← e]
    exact q _ F2 H2 c2 (s1.trans s2) r
theorem ev_rev (ha : Lk K Γ Ω ta Rs) : Ev Γ Ω (tRevL K ta) (Ls K Rs.reverse) := fun Z F H σ c Q q =>
  ha Z F H σ c _ fun a F1 H1 c1 s1 hs => by
    obtain ⟨xs, hs1, hl⟩ := hs F1 H1 c1 (Same.refl _)
    refine ⟨a, xs, rfl, hs1, fun p hp => ?_⟩
    obtain ⟨F2, H2, e, c2, s2, r⟩ := new_ls (K := K) c1 hl.rev hp
    rw [← e]
    exact q _ F2 H2 c2 (s1.trans s2) r
def EvO (Γ : Gm) (Ω : Om) (to : TO) (o : Option Int) : Prop := ∀ (Z : Bs) (F H : Hp) (σ : L2.St), Ctx Z F H σ Γ Ω → ∀ Q : Option Int → Hp → Prop, (∀ F' H', Ctx Z F' H' σ Γ Ω → Ext [] F H F' H' → Q o H') → to σ H Q
theorem eo_none : EvO Γ Ω tNoPart none := fun Z F H σ c Q q => q F H c (Ext.refl _ _ _)
theorem eo_some {i : Int} (h : Ev Γ Ω te (I i)) : EvO Γ Ω (tPart te) (some i) := fun Z F H σ c Q q => h Z F H σ c _ fun v F1 H1 c1 s1 r => ⟨i, r, q F1 H1 c1 s1⟩
theorem ev_slLk {tl th : TO} {lo hi : Option Int} (ha : Lk K Γ Ω ta Rs) (h1 : EvO Γ Ω tl lo) (h2 : EvO Γ Ω th hi) : Ev Γ Ω (tSl (rSlL K) ta tl th) (Ls K (cutA Rs lo hi)) := fun Z F H σ c Q q =>
  ha Z F H σ c _ fun a F1 H1 c1 s1 hs => h1 Z F1 H1 σ c1 _ fun F2 H2 c2 s2 => h2 Z F2 H2 σ c2 _ fun F3 H3 c3 s3 => by
    obtain ⟨xs, hs1, hl⟩ := hs F3 H3 c3 (s2.trans s3).fe
    refine ⟨a, xs, rfl, hs1, fun p hp => ?_⟩
    have hz : All F3 (cutA Rs lo hi) (cutV xs lo hi) := by
      unfold cutA cutV
      rw [hl.length]
      exact (hl.drop _).take _
    obtain ⟨F4, H4, e, c4, s4, r⟩ := new_ls (K := K) c3 hz hp
    rw [← e]
    exact q _ F4 H4 c4 (s1.trans (s2.trans (s3.trans s4))) r
theorem cutA_to {α : Type} {f : α → As} {xs : List α} {k : Nat} : cutA (xs.map f) none (some (k : Int)) = (xs.take k).map f := by
  unfold cutA
  rw [HT.sIx_nat, HT.sIx_none, List.length_map, List.drop_zero, Nat.sub_zero, List.map_take]
  by_cases h : k ≤ xs.length
  · rw [Nat.min_eq_left h]
  · rw [Nat.min_eq_right (by omega), List.take_of_length_le (by rw [List.length_map]; omega), List.take_of_length_le (by rw [List.length_map]; omega)]
theorem cutA_most {α : Type} {f : α → As} {xs : List α} : cutA (xs.map f) none (some (-1)) = xs.dropLast.map f := by
  unfold cutA HT.sIx
  simp only [List.length_map, List.drop_zero, Nat.sub_zero]
  rw [if_pos (by decide), List.dropLast_eq_take, ← List.map_take]
  congr 2
  omega
end
/-! ## lists that are made and grow -/
section
variable {Z : Bs} {F H F' H' : Hp} {σ σ' : L2.St} {Γ Γ' : Gm} {Ω Ω' : Om} {K : PySem.W.Frag} {te ta tb : TE} {R Rx Ry : As} {Rs Ss : List As} {n : L2.St → Hp → Prop} {r : VK} {bk ct : L2.St → Hp → Prop}
theorem Ctx.grow {p : Addr} {o : HO} {A : OA} (c : Ctx Z F H σ Γ Ω) (hp : H p = none) (hA : A.p F o) : Ctx Z F (upd H p o) σ Γ ((p, A) :: Ω) := by
  have e := Ext.newH (F := F) (o := o) hp
  have hf : F p = none := c.sub.free hp
  have np : ∀ x ∈ Ω, x.1 ≠ p := fun x hx z => by
    obtain ⟨_, o', h2, _⟩ := c.own x hx
    rw [z, hp] at h2
    cases h2
  refine ⟨c.sat, fun a u q => ?_, fun x hx => ?_, ?_, fun x hx => ?_, c.ext.trans (e.wid fun _ h => absurd h List.not_mem_nil), c.pin⟩
  · rw [upd_ne (ne_of_none q hf)]
    exact c.sub a u q
  · rcases List.mem_cons.mp hx with z | hx
    · subst z
      exact ⟨hf, o, upd_same, hA⟩
    · obtain ⟨h1, o', h2, h3⟩ := c.own x hx
      exact ⟨h1, o', by rw [upd_ne (np x hx)]; exact h2, h3⟩
  · rw [List.map_cons, List.nodup_cons]
    refine ⟨fun hx => ?_, c.nd⟩
    obtain ⟨x, hx, z⟩ := List.mem_map.mp hx
    exact np x hx z
  · rcases List.mem_cons.mp hx with z | hx
    · subst z
      exact .inr (.inl (c.ext.dm _ hp))
    · exact c.loc x hx
theorem Ctx.wr {p : Addr} {A : OA} {j : Nat} (c : Ctx Z F H σ Γ Ω) (hm : Ω[j]? = some (p, A)) (hro : Z.ro = []) : p ∈ Z.ft ∨ Z.H p = none := by
  rcases c.loc _ (List.mem_of_getElem? hm) with l | l | l
  · exact .inl l
  · exact .inr l
  · rw [hro] at l
    exact absurd l List.not_mem_nil
/-- what is owned changes -/
theorem Ctx.chg {p : Addr} {o : HO} {A A' : OA} {j : Nat} (c : Ctx Z F H σ Γ Ω) (hm : Ω[j]? = some (p, A)) (hA : A'.p F o) (hw : p ∈ Z.ft ∨ Z.H p = none) : Ctx Z F (upd H p o) σ Γ (Ω.set j (p, A')) := by
  have hmem := List.mem_of_getElem? hm
  have hj : j < Ω.length := (List.getElem?_eq_some_iff.mp hm).1
  obtain ⟨hf, o0, h0, _⟩ := c.own _ hmem
  have other : ∀ (i : Nat) (x : Addr × OA), i ≠ j → Ω[i]? = some x → x.1 ≠ p := fun i x hi hx z => by
    have a1 : (Ω.map (·.1))[i]? = some p := by rw [List.getElem?_map, hx, ← z]; rfl
    have a2 : (Ω.map (·.1))[j]? = some p := by rw [List.getElem?_map, hm]; rfl
    exact hi (nd_ix c.nd a1 a2)
  have look : ∀ x ∈ Ω.set j (p, A'), x = (p, A') ∨ (x ∈ Ω ∧ x.1 ≠ p) := fun x hx => by
    obtain ⟨i, hi⟩ := List.getElem?_of_mem hx
    by_cases z : j = i
    · subst z
      rw [List.getElem?_set_self hj] at hi
      exact .inl (Option.some.inj hi).symm
    · rw [List.getElem?_set_ne z] at hi
      exact .inr ⟨List.mem_of_getElem? hi, other i x (Ne.symm z) hi⟩
  refine ⟨c.sat, fun a u q => ?_, fun x hx => ?_, ?_, fun x hx => ?_, ?_, c.pin⟩
  · rw [upd_ne (ne_of_none q hf)]
    exact c.sub a u q
  · rcases look x hx with z | ⟨hx, z⟩
    · subst z
      exact ⟨hf, o, upd_same, hA⟩
    · obtain ⟨h1, o', h2, h3⟩ := c.own x hx
      exact ⟨h1, o', by rw [upd_ne z]; exact h2, h3⟩
  · rw [List.map_set]
    have e : (Ω.map (·.1)).set j p = Ω.map (·.1) := by
      have a2 : (Ω.map (·.1))[j]? = some p := by rw [List.getElem?_map, hm]; rfl
      apply List.ext_getElem?
      intro i
      by_cases z : j = i
      · subst z
        rw [List.getElem?_set_self (by rw [List.length_map]; exact hj), a2]
      · rw [List.getElem?_set_ne z]
    rw [e]
    exact c.nd
  · rcases look x hx with z | ⟨hx, z⟩
    · subst z
      exact (c.loc _ hmem : p ∈ _ ∨ _)
    · exact c.loc x hx
  · have l := hw
    refine ⟨c.ext.fe, fun a u q na => ?_, fun a q => ?_, c.ext.nw⟩
    · have z : a ≠ p := fun z => by
        subst z
        rcases l with l | l
        · exact na l
        · rw [l] at q; cases q
      rw [upd_ne z]
      exact c.ext.fr a u q na
    · by_cases z : a = p
      · subst z
        rw [upd_same] at q
        cases q
      · rw [upd_ne z] at q
        exact c.ext.dm a q
/-- an owned list that nobody changes any more -/
theorem Ctx.frz {p : Addr} {Rs : List As} {A : OA} {j : Nat} (c : Ctx Z F H σ Γ Ω) (hm : Ω[j]? = some (p, A)) (hA : RdL A Rs) (hz : Z.ft = []) (hro : Z.ro = []) : ∃ F', Same F F' ∧ Ctx Z F' H σ Γ (Ω.eraseIdx j) ∧ (Ls K Rs).p F' (.ref p) := by
  have hmem := List.mem_of_getElem? hm
  have hj : j < Ω.length := (List.getElem?_eq_some_iff.mp hm).1
  obtain ⟨hf, o0, h0, hA0⟩ := c.own _ hmem
  obtain ⟨xs, e, hl⟩ := hA.rd _ _ hA0
  dsimp only at hf h0
  have s : Same F (upd F p (.lst xs)) := fun a u q => by rw [upd_ne (ne_of_none q hf)]; exact q
  have hzp : Z.H p = none := by
    rcases c.wr hm hro with l | l
    · rw [hz] at l; exact absurd l List.not_mem_nil
    · exact l
  have other : ∀ x ∈ Ω.eraseIdx j, x ∈ Ω ∧ x.1 ≠ p := fun x hx => by
    have hx' := List.mem_of_mem_eraseIdx hx
    refine ⟨hx', fun z => ?_⟩
    have nd2 : ((Ω.eraseIdx j).map (·.1)).Nodup := (List.eraseIdx_sublist Ω j).map _ |>.nodup c.nd
    obtain ⟨i, hi⟩ := List.getElem?_of_mem hx
    rw [List.getElem?_eraseIdx] at hi
    split at hi
    · have a1 : (Ω.map (·.1))[i]? = some p := by rw [List.getElem?_map, hi, ← z]; rfl
      have a2 : (Ω.map (·.1))[j]? = some p := by rw [List.getElem?_map, hm]; rfl
      have := nd_ix c.nd a1 a2
      omega
    · have a1 : (Ω.map (·.1))[i + 1]? = some p := by rw [List.getElem?_map, hi, ← z]; rfl
      have a2 : (Ω.map (·.1))[j]? = some p := by rw [List.getElem?_map, hm]; rfl
      have := nd_ix c.nd a1 a2
      omega
  refine ⟨upd F p (.lst xs), s, ⟨c.sat.mono s, fun a u q => ?_, fun x hx => ?_, ((List.eraseIdx_sublist Ω j).map _).nodup c.nd, fun x hx => c.loc x (other x hx).1, ⟨c.ext.fe.trans s, c.ext.fr, c.ext.dm, fun a h1 h2 => ?_⟩, c.pin.trans s⟩, p, xs, rfl, SqL.of upd_same, hl.mono s⟩
  · by_cases z : a = p
    · subst z
      rw [upd_same] at q
      rw [h0, e]
      exact q
    · rw [upd_ne z] at q
      exact c.sub a u q
  · obtain ⟨hx1, hx2⟩ := other x hx
    obtain ⟨h1, o', h2, h3⟩ := c.own x hx1
    exact ⟨by rw [upd_ne hx2]; exact h1, o', h2, x.2.mono s h3⟩
  · have z : a ≠ p := fun z => h1 (by rw [z]; exact hzp)
    rw [upd_ne z]
    exact c.ext.nw a h1 h2
theorem st_asgX {β : Type} {P : β → Prop} {Rb : β → As} {g : TG} {G' : β → Gm} {ws : List Nat} (c : Ctx Z F H σ Γ Ω) (e : Ev Γ Ω te (Xs P Rb)) (hg : ∀ b, Gt Γ (Rb b) g (G' b) ws) (k : ∀ b F' H' σ', P b → Ctx Z F' H' σ' (G' b) Ω → Same F F' → n σ' H') : tAsg te g ⟨n, r, bk, ct⟩ σ H :=
  e Z F H σ c _ fun v F1 H1 c1 s1 rv => by
    obtain ⟨b, hb, rv⟩ := rv
    exact hg b Z F1 H1 σ v Ω c1 rv _ fun σ' c2 _ => k b F1 H1 σ' hb c2 s1.fe
theorem ev_eqB {a b : Bool} (ha : Ev Γ Ω ta (B a)) (hb : Ev Γ Ω tb (B b)) : Ev Γ Ω (tOp rEq ta tb) (B (decide (a = b))) := ev_op ha hb fun F H x y s e e' Q q => by
  cases e; cases e'
  refine ⟨rfl, ?_⟩
  have z : decide (V.bl a = V.bl b) = decide (a = b) := by simp
  rw [z]
  exact q _ F H (Ext.refl _ _ _) s rfl
theorem ev_eqS {a b : Str} (ha : Ev Γ Ω ta (S a)) (hb : Ev Γ Ω tb (S b)) : Ev Γ Ω (tOp rEq ta tb) (B (decide (a = b))) := ev_op ha hb fun F H x y s e e' Q q => by
  cases e; cases e'
  refine ⟨rfl, ?_⟩
  have z : decide (V.str a = V.str b) = decide (a = b) := by simp
  rw [z]
  exact q _ F H (Ext.refl _ _ _) s rfl
theorem ev_neS {a b : Str} (ha : Ev Γ Ω ta (S a)) (hb : Ev Γ Ω tb (S b)) : Ev Γ Ω (tOp rNe ta tb) (B (!decide (a = b))) := ev_op ha hb fun F H x y s e e' Q q => by
  cases e; cases e'
  refine ⟨rfl, ?_⟩
  have z : decide (V.str a = V.str b) = decide (a = b) := by simp
  rw [z]
  exact q _ F H (Ext.refl _ _ _) s rfl
theorem st_forT {ι α : Type} {tl : TE} {g : TG} {tb : TS} {xs : List α} {f : α → As} (G : ι → Gm) (G' : α → ι → Gm) (O : ι → Om) (P : Nat → ι → Prop) {ws : List Nat} (i0 : ι) (c : Ctx Z F H σ (G i0) (O i0)) (e : Ev (G i0) (O i0) tl (Tp K (xs.map f))) (p0 : P 0 i0)
    (hg : ∀ x i, Gt (G i) (f x) g (G' x i) ws)
    (body : ∀ k x i G1 F H σ (N : St → Hp → Prop), xs[k]? = some x → P k i → Ctx (Z.pin G1) F H σ (G' x i) (O i) → (∀ j F' H' σ', P (k + 1) j → Ctx (Z.pin G1) F' H' σ' (G j) (O j) → N σ' H') → tb ⟨N, r, n, N⟩ σ H)
    (hd : ∀ i F H σ, P xs.length i → Ctx Z F H σ (G i) (O i) → n σ H) : tFor (iTup K tl) g tb ⟨n, r, bk, ct⟩ σ H := by
  refine e Z F H σ c _ fun v F1 H1 c1 s1 rv => ?_
  obtain ⟨a, ys, ea, hs, hl⟩ := rv
  have hlen : ys.length = xs.length := by rw [hl.length, List.length_map]
  refine ⟨a, ea, ⟨ys, same_seqT c1.sub hs⟩, for_tup (K := K) (a := a) (xs := ys) (fun k σ H => ∃ i F, P k i ∧ Ctx (Z.pin F1) F H σ (G i) (O i)) ⟨i0, F1, p0, c1.topin (Same.refl _)⟩ (fun k σ H _ ⟨i, F, _, cc⟩ => same_seqT cc.sub (same_seqT cc.pin hs)) ?_ ?_⟩
  · rintro k y σ H hy ⟨i, F, p, cc⟩
    have hk : k < xs.length := by rw [← hlen]; exact (List.getElem?_eq_some_iff.mp hy).1
    have hx : xs[k]? = some xs[k] := List.getElem?_eq_getElem hk
    have hz : (xs.map f)[k]? = some (f xs[k]) := by rw [List.getElem?_map, hx]; rfl
    obtain ⟨y', ey, ry⟩ := hl.get hz
    rw [hy] at ey
    cases ey
    refine hg xs[k] i (Z.pin F1) F H σ y (O i) cc ((f xs[k]).mono cc.pin ry) _ fun σ' c' _ => ?_
    exact body k xs[k] i F1 F H σ' _ hx p c' fun j F' H' σ'' pj cj => ⟨j, F', pj, cj⟩
  · rintro σ H ⟨i, F, p, cc⟩
    rw [hlen] at p
    exact hd i F H σ p (cc.unpin c1.pin)
theorem ev_ls2 {Rs' : List As} (h : Ev Γ Ω te (Ls K Rs)) (e : Rs = Rs') : Ev Γ Ω te (Ls K Rs') := e ▸ h
/-- x = [] of a list that will grow -/
theorem st_nil {i : Nat} (c : Ctx Z F H σ Γ Ω) (k : ∀ p F' H' σ', Ctx Z F' H' σ' (Γ.set i (some (Rf p))) ((p, oL []) :: Ω) → Same F F' → n σ' H') : tAsg (tLst tNil) (gName i) ⟨n, r, bk, ct⟩ σ H :=
  ⟨Nat.zero_le _, fun p hp => k p F _ _ ((c.grow (A := oL []) hp ⟨[], rfl, trivial⟩).set i rfl) (Same.refl _)⟩
/-- x.append(e), x owned -/
theorem st_app {p : Addr} {j : Nat} (c : Ctx Z F H σ Γ Ω) (h : Ev Γ Ω ta (Rf p)) (hm : Ω[j]? = some (p, oL Rs)) (e : Ev Γ Ω te R) (hl : Rs.length ≤ 100000) (k : ∀ F' H', Ctx Z F' H' σ Γ (Ω.set j (p, oL (Rs ++ [R]))) → Same F F' → n σ H') (hro : Z.ro = [] := by rfl) :
    tDrop (tBM K "list" rAppend ta (tCons te tNil)) ⟨n, r, bk, ct⟩ σ H :=
  h Z F H σ c _ fun v F1 H1 c1 s1 rv => by
    cases rv
    obtain ⟨_, o, h2, xs, eo, hx⟩ := c1.own _ (List.mem_of_getElem? hm)
    refine ⟨.inl ⟨rfl, _, SqL.of (by rw [h2, eo])⟩, ?_⟩
    refine e Z F1 H1 σ c1 _ fun y F2 H2 c2 s2 ry => ?_
    obtain ⟨_, o, h2, xs, eo, hx⟩ := c2.own _ (List.mem_of_getElem? hm)
    refine ⟨p, xs, y, rfl, rfl, by rw [h2, eo], ?_, ?_⟩
    · rw [hx.length]
      exact Nat.lt_of_le_of_lt hl (by decide)
    · exact k F2 _ (c2.chg hm ⟨_, rfl, hx.app ⟨ry, trivial⟩⟩ (c2.wr hm hro)) (s1.trans s2).fe
theorem st_appX {β : Type} {P : β → Prop} {Rb : β → As} {p : Addr} {j : Nat} (c : Ctx Z F H σ Γ Ω) (h : Ev Γ Ω ta (Rf p)) (hm : Ω[j]? = some (p, oL Rs)) (e : Ev Γ Ω te (Xs P Rb)) (hl : Rs.length ≤ 100000) (k : ∀ b F' H', P b → Ctx Z F' H' σ Γ (Ω.set j (p, oL (Rs ++ [Rb b]))) → Same F F' → n σ H') (hro : Z.ro = [] := by rfl) :
    tDrop (tBM K "list" rAppend ta (tCons te tNil)) ⟨n, r, bk, ct⟩ σ H :=
  h Z F H σ c _ fun v F1 H1 c1 s1 rv => by
    cases rv
    obtain ⟨_, o, h2, xs, eo, hx⟩ := c1.own _ (List.mem_of_getElem? hm)
    refine ⟨.inl ⟨rfl, _, SqL.of (by rw [h2, eo])⟩, ?_⟩
    refine e Z F1 H1 σ c1 _ fun y F2 H2 c2 s2 ry => ?_
    obtain ⟨b, hb, ry⟩ := ry
    obtain ⟨_, o, h2, xs, eo, hx⟩ := c2.own _ (List.mem_of_getElem? hm)
    refine ⟨p, xs, y, rfl, rfl, by rw [h2, eo], ?_, ?_⟩
    · rw [hx.length]
      exact Nat.lt_of_le_of_lt hl (by decide)
    · exact k b F2 _ hb (c2.chg hm ⟨_, rfl, hx.app ⟨ry, trivial⟩⟩ (c2.wr hm hro)) (s1.trans s2).fe
/-- return x, x owned -/
theorem st_retL {p : Addr} {A : OA} {j : Nat} (c : Ctx Z F H σ Γ Ω) (h : Ev Γ Ω te (Rf p)) (hm : Ω[j]? = some (p, A)) (hA : RdL A Rs) (hz : Z.ft = []) (k : ∀ v F' H', Ctx Z F' H' σ Γ (Ω.eraseIdx j) → Same F F' → (Ls K Rs).p F' v → r v H') (hro : Z.ro = [] := by rfl) : tRet te ⟨n, r, bk, ct⟩ σ H :=
  h Z F H σ c _ fun v F1 H1 c1 s1 rv => by
    cases rv
    obtain ⟨F2, s2, c2, q⟩ := c1.frz (K := K) hm hA hz hro
    exact k _ F2 H1 c2 (s1.fe.trans s2) q
end
/-! ## == of data -/
structure IsD (K : PySem.W.Frag) (R : As) (d : PyData) : Prop where
  dp : ∀ F H v, Same F H → R.p F v → Dp K H v d
def AllD (K : PySem.W.Frag) : List As → List PyData → Prop
  | [], [] => True
  | R :: Rs, d :: ds => IsD K R d ∧ AllD K Rs ds
  | _, _ => False
/-- it can be compared: its depth is at most k -/
def Gd (k : Nat) (d : PyData) : Prop := d.canLay0 = true ∧ d.depth ≤ k
theorem gd_all : ∀ {ds : List PyData} {k : Nat}, (∀ d ∈ ds, Gd k d) → PyData.canLayAll0 ds = true ∧ PyData.depthAll ds ≤ k
  | [], k, _ => ⟨rfl, Nat.zero_le _⟩
  | d :: ds, k, h => by
    obtain ⟨h1, h2⟩ := h d List.mem_cons_self
    obtain ⟨h3, h4⟩ := gd_all (k := k) fun d' hd => h d' (List.mem_cons_of_mem _ hd)
    refine ⟨?_, ?_⟩
    · show (d.canLay0 && PyData.canLayAll0 ds) = true
      rw [h1, h3]; rfl
    · show max d.depth (PyData.depthAll ds) ≤ k
      omega
theorem gd_list {ds : List PyData} {k : Nat} (h : ∀ d ∈ ds, Gd k d) : Gd (k + 1) (.list ds) := ⟨(gd_all h).1, Nat.succ_le_succ (gd_all h).2⟩
theorem gd_tup {ds : List PyData} {k : Nat} (h : ∀ d ∈ ds, Gd k d) : Gd (k + 1) (.tuple ds) := ⟨(gd_all h).1, Nat.succ_le_succ (gd_all h).2⟩
theorem gd_int {n : Int} : Gd 0 (.int n) := ⟨rfl, Nat.le_refl _⟩
theorem Gd.shaped {d : PyData} {k : Nat} (h : Gd k d) (l : k ≤ 64 := by decide) : SeqAt.shaped d = true := by
  unfold SeqAt.shaped
  rw [h.1, Bool.true_and]
  exact decide_eq_true (Nat.le_trans h.2 l)
section
variable {K : PySem.W.Frag} {F H : Hp}
theorem isd_int {n : Int} : IsD K (I n) (.int n) := ⟨fun F H v s e => by cases e; exact .int n⟩
theorem isd_bool {b : Bool} : IsD K (B b) (.bool b) := ⟨fun F H v s e => by cases e; exact .bl b⟩
theorem isd_str {x : Str} : IsD K (S x) (.str x) := ⟨fun F H v s e => by cases e; exact .str x⟩
theorem isd_non : IsD K Nn .none := ⟨fun F H v s e => by cases e; exact .non⟩
theorem dpall : ∀ {Rs : List As} {ds : List PyData} {xs : List V}, AllD K Rs ds → Same F H → All F Rs xs → DpAll K H xs ds
  | [], [], [], _, _, _ => .nil
  | R :: Rs, d :: ds, x :: xs, h, s, a => .cons (h.1.dp F H x s a.1) (dpall h.2 s a.2)
  | [], _ :: _, _, h, _, _ => h.elim
  | _ :: _, [], _, h, _, _ => h.elim
  | [], [], _ :: _, _, _, a => a.elim
  | _ :: _, _ :: _, [], _, _, a => a.elim
theorem isd_tup {Rs : List As} {ds : List PyData} (h : AllD K Rs ds) : IsD K (Tp K Rs) (.tuple ds) := ⟨fun F H v s e => by
  obtain ⟨a, xs, e, hs, hl⟩ := e
  subst e
  exact .tup (same_seqT s hs) (dpall h s hl)⟩
theorem isd_lst {Rs : List As} {ds : List PyData} (h : AllD K Rs ds) : IsD K (Ls K Rs) (.list ds) := ⟨fun F H v s e => by
  obtain ⟨a, xs, e, hs, hl⟩ := e
  subst e
  exact .lst (s.seq hs) (dpall h s hl)⟩
theorem alld_map {α : Type} {f : α → As} {d : α → PyData} (h : ∀ x, IsD K (f x) (d x)) : ∀ xs : List α, AllD K (xs.map f) (xs.map d)
  | [] => trivial
  | x :: xs => ⟨h x, alld_map h xs⟩
/-- how data of a kind are told, and that == tells them apart -/
structure Kd (K : PySem.W.Frag) {α : Type} (f : α → As) (d : α → PyData) (k : Nat) : Prop where
  is : ∀ x, IsD K (f x) (d x)
  gd : ∀ x, Gd k (d x)
  eq : ∀ x y, PyData.eqv (d x) (d y) = true ↔ x = y
theorem kd_int : Kd K (fun n => I n) PyData.int 0 := ⟨fun _ => isd_int, fun _ => gd_int, fun x y => by simp [PyData.eqv]⟩
theorem kd_pair : Kd K (Fr K) (fun q => .tuple [.int q.1, .int q.2]) 1 := ⟨fun q => isd_tup ⟨isd_int, isd_int, trivial⟩, fun q => gd_tup fun d hd => by
    rcases List.mem_cons.mp hd with z | hd
    · subst z; exact gd_int
    · rcases List.mem_cons.mp hd with z | hd
      · subst z; exact gd_int
      · exact absurd hd List.not_mem_nil, fun x y => by
    obtain ⟨a, b⟩ := x
    obtain ⟨c, d⟩ := y
    simp [PyData.eqv, PyData.eqvAll]⟩
theorem fq_inj {x y : Rat} (h1 : x.num = y.num) (h2 : (x.den : Int) = y.den) : x = y := by
  rw [← Rat.num_divInt_den x, ← Rat.num_divInt_den y, h1, h2]
theorem kd_fq : Kd K (Fq K) (fun q => .tuple [.int q.num, .int q.den]) 1 := ⟨fun q => kd_pair.is _, fun q => (kd_pair (K := K)).gd (q.num, (q.den : Int)), fun x y => by
    have e := kd_pair (K := K) |>.eq (x.num, (x.den : Int)) (y.num, (y.den : Int))
    refine e.trans ⟨fun h => ?_, fun h => by rw [h]⟩
    exact fq_inj (congrArg Prod.fst h) (congrArg Prod.snd h)⟩
theorem eqv_map {α : Type} {d : α → PyData} (h : ∀ x y, PyData.eqv (d x) (d y) = true ↔ x = y) : ∀ xs ys : List α, PyData.eqvAll (xs.map d) (ys.map d) = true ↔ xs = ys
  | [], [] => ⟨fun _ => rfl, fun _ => rfl⟩
  | [], _ :: _ => ⟨(fun h => by cases h), (fun h => by cases h)⟩
  | _ :: _, [] => ⟨(fun h => by cases h), (fun h => by cases h)⟩
  | x :: xs, y :: ys => by
    show (PyData.eqv (d x) (d y) && PyData.eqvAll (xs.map d) (ys.map d)) = true ↔ _
    rw [Bool.and_eq_true, h, eqv_map h xs ys, List.cons.injEq]
theorem kd_list {α : Type} {f : α → As} {d : α → PyData} {k : Nat} (h : Kd K f d k) : Kd K (fun xs : List α => Ls K (xs.map f)) (fun xs => .list (xs.map d)) (k + 1) :=
  ⟨fun xs => isd_lst (alld_map h.is xs), fun xs => gd_list fun d' hd => by
    obtain ⟨x, _, e⟩ := List.mem_map.mp hd
    subst e; exact h.gd x, fun xs ys => eqv_map h.eq xs ys⟩
variable {Γ : Gm} {Ω : Om} {ta tb : TE} {R Rx Ry : As}
theorem ev_eqD {d e : PyData} {k m : Nat} (ha : Ev Γ Ω ta Rx) (hb : Ev Γ Ω tb Ry) (h1 : IsD K Rx d) (h2 : IsD K Ry e) (g1 : Gd k d) (g2 : Gd m e) (l1 : k ≤ 64 := by decide) (l2 : m ≤ 64 := by decide) : Ev Γ Ω (tOp (rEqD K) ta tb) (B (PyData.eqv d e)) :=
  ev_op ha hb fun F H x y s rx ry Q q => ⟨d, e, h1.dp F H x s rx, h2.dp F H y s ry, g1.shaped l1, g2.shaped l2, q _ F H (Ext.refl _ _ _) s rfl⟩
theorem ev_neD {d e : PyData} {k m : Nat} (ha : Ev Γ Ω ta Rx) (hb : Ev Γ Ω tb Ry) (h1 : IsD K Rx d) (h2 : IsD K Ry e) (g1 : Gd k d) (g2 : Gd m e) (l1 : k ≤ 64 := by decide) (l2 : m ≤ 64 := by decide) : Ev Γ Ω (tOp (rNeD K) ta tb) (B (!PyData.eqv d e)) :=
  ev_op ha hb fun F H x y s rx ry Q q => ⟨d, e, h1.dp F H x s rx, h2.dp F H y s ry, g1.shaped l1, g2.shaped l2, q _ F H (Ext.refl _ _ _) s rfl⟩
theorem ev_eqK {α : Type} [DecidableEq α] {f : α → As} {d : α → PyData} {k : Nat} {x y : α} (h : Kd K f d k) (ha : Ev Γ Ω ta (f x)) (hb : Ev Γ Ω tb (f y)) (l : k ≤ 64 := by decide) : Ev Γ Ω (tOp (rEqD K) ta tb) (B (decide (x = y))) :=
  ev_is (ev_eqD ha hb (h.is x) (h.is y) (h.gd x) (h.gd y) l l) (congrArg (fun b => B b) (by rw [Bool.eq_iff_iff, h.eq, decide_eq_true_iff]))
theorem ev_neK {α : Type} [DecidableEq α] {f : α → As} {d : α → PyData} {k : Nat} {x y : α} (h : Kd K f d k) (ha : Ev Γ Ω ta (f x)) (hb : Ev Γ Ω tb (f y)) (l : k ≤ 64 := by decide) : Ev Γ Ω (tOp (rNeD K) ta tb) (B (!decide (x = y))) :=
  ev_is (ev_neD ha hb (h.is x) (h.is y) (h.gd x) (h.gd y) l l) (congrArg (fun b => B (!b)) (by rw [Bool.eq_iff_iff, h.eq, decide_eq_true_iff]))
end
/-- a list, owned or not, against the list without items -/
theorem eqv_nil {ds : List PyData} : PyData.eqv (.list ds) (.list []) = decide (ds = []) := by
  cases ds with
  | nil => rfl
  | cons => rfl
section
variable {K : PySem.W.Frag} {Γ : Gm} {Ω : Om} {ta tb : TE} {α : Type} {f : α → As} {d : α → PyData} {k : Nat} {xs : List α}
theorem ev_cmpNil (neg : Bool) (h : Kd K f d k) (ha : Lk K Γ Ω ta (xs.map f)) (l : k ≤ 63 := by decide) : Ev Γ Ω (tOp (if neg then rNeD K else rEqD K) ta (tLst tNil)) (B (if neg then !xs.isEmpty else xs.isEmpty)) := fun Z F H σ c Q q =>
  ha Z F H σ c _ fun a F1 H1 c1 s1 hs => ⟨Nat.zero_le _, fun p hp => by
    obtain ⟨F2, H2, e, c2, s2, r⟩ := new_ls (K := K) (Rs := []) (xs := []) c1 trivial hp
    rw [← e]
    obtain ⟨ys, hs2, hl⟩ := hs F2 H2 c2 s2.fe
    have d1 : Dp K H2 (.ref a) (.list (xs.map d)) := .lst hs2 (dpall (alld_map h.is xs) c2.sub hl)
    have d2 : Dp K H2 (.ref p) (.list []) := by
      obtain ⟨p', zs, ep, hz, hzl⟩ := r
      cases ep
      exact .lst (c2.sub.seq hz) (dpall (Rs := []) (ds := []) trivial c2.sub hzl)
    have g1 : Gd (k + 1) (.list (xs.map d)) := (kd_list h).gd xs
    have sh1 := g1.shaped (Nat.succ_le_succ l)
    have sh2 : SeqAt.shaped (.list []) = true := by decide
    have ee : PyData.eqv (.list (xs.map d)) (.list []) = xs.isEmpty := by
      cases xs <;> rfl
    cases neg with
    | true => exact ⟨_, _, d1, d2, sh1, sh2, by rw [ee]; exact q _ F2 H2 c2 (s1.trans s2) rfl⟩
    | false => exact ⟨_, _, d1, d2, sh1, sh2, by rw [ee]; exact q _ F2 H2 c2 (s1.trans s2) rfl⟩⟩
end
end Y

namespace Y
open PySem L2
/-! ## comprehensions -/
def wipeG (Γ : Gm) : List Nat → Gm
  | [] => Γ
  | v :: vs => (wipeG Γ vs).set v none
theorem wipe_sub {σ : L2.St} {vs : List Nat} : ∀ us : List Nat, (∀ i, i ∈ us → i ∈ vs) → L2.wipe (L2.wipe σ us) vs = L2.wipe σ vs
  | [], _ => rfl
  | u :: us, h => (wipe_set (σ := L2.wipe σ us) (h u List.mem_cons_self)).trans (wipe_sub us fun i hi => h i (List.mem_cons_of_mem _ hi))
theorem wipe_wipe (σ : L2.St) (vs : List Nat) : L2.wipe (L2.wipe σ vs) vs = L2.wipe σ vs := wipe_sub vs fun _ h => h
theorem Sat.wipe {F : Hp} {Γ : Gm} {σ : L2.St} (h : Sat F Γ σ) : ∀ vs : List Nat, Sat F (wipeG Γ vs) (L2.wipe σ vs)
  | [] => h
  | v :: vs => Sat.unset v (Sat.wipe h vs)
section
variable {Z : Bs} {F H F' H' : Hp} {σ σ' : L2.St} {Γ Γ' : Gm} {Ω Ω' : Om} {K : PySem.W.Frag} {te ta tb tl : TE} {tt : TT} {R Rx Ry : As} {Rs Ss : List As} {n : L2.St → Hp → Prop} {r : VK} {bk ct : L2.St → Hp → Prop}
theorem Ctx.slots {Γ' : Gm} {σ' : L2.St} (c : Ctx Z F H σ Γ Ω) (h : Sat F Γ' σ') : Ctx Z F H σ' Γ' Ω := ⟨h, c.sub, c.own, c.nd, c.loc, c.ext, c.pin⟩
/-- what is owned is, for a while, what it is just now -/
theorem Ctx.tail {x : Addr × OA} (c : Ctx Z F H σ Γ (x :: Ω)) : Ctx Z F H σ Γ Ω :=
  ⟨c.sat, c.sub, fun y hy => c.own y (List.mem_cons_of_mem _ hy), (List.nodup_cons.mp c.nd).2, fun y hy => c.loc y (List.mem_cons_of_mem _ hy), c.ext, c.pin⟩
theorem filter_take {α : Type} {xs : List α} {c : α → Bool} {k : Nat} {x : α} (h : xs[k]? = some x) : (xs.take (k + 1)).filter c = (xs.take k).filter c ++ (if c x = true then [x] else []) := by
  rw [List.take_succ, h, Option.toList_some, List.filter_append]
  congr 1
  rw [List.filter_cons, List.filter_nil]
theorem ev_lc {α : Type} {xs : List α} {f : α → As} {g : TG} {vs : List Nat} (G' : α → Gm) (cd : α → Bool) (res : α → As) {ws : List Nat} (e : Ev Γ Ω tl (Ls K (xs.map f))) (hg : ∀ x, Gt (wipeG Γ vs) (f x) g (G' x) ws) (hw : ∀ i ∈ ws, i ∈ vs)
    (ht : ∀ x ∈ xs, EvT (G' x) Ω tt (cd x)) (he : ∀ x ∈ xs, cd x = true → Ev (G' x) Ω te (res x)) (hlen : xs.length ≤ 100000) : Ev Γ Ω (tLc (iList K tl) g tt te vs) (Ls K ((xs.filter cd).map res)) := fun Z F H σ c Q q =>
  e Z F H σ c _ fun v F1 H1 c1 s1 rv => by
    obtain ⟨a, ys, ea, hs, hl⟩ := rv
    have hly : ys.length = xs.length := by rw [hl.length, List.length_map]
    refine ⟨a, ea, ⟨ys, c1.sub.seq hs⟩, fun D hD => ?_⟩
    have cw : Ctx Z F1 H1 (L2.wipe σ vs) (wipeG Γ vs) Ω := c1.slots (c1.sat.wipe vs)
    refine lc_list (K := K) (a := a) (xs := ys) (fun k H' => ∃ F' acc, H' D = some (.lst acc) ∧ acc.length ≤ k ∧ All F' (((xs.take k).filter cd).map res) acc ∧ F' D = none ∧ ∃ G, Ctx Z F' G (L2.wipe σ vs) (wipeG Γ vs) Ω ∧ Ext [] F1 H1 F' G ∧ G D = none ∧ H' = upd G D (.lst acc))
      ⟨F1, [], upd_same, Nat.zero_le _, trivial, c1.sub.free hD, H1, cw, Ext.refl _ _ _, hD, rfl⟩ ?_ ?_ ?_
    · rintro k H' _ ⟨F', acc, _, _, _, _, G, cG, eG, hGD, rfl⟩
      have z := cG.sub.seq (eG.fe.seq hs)
      exact Same.seq (fun b o h => by rw [upd_ne (ne_of_none h hGD)]; exact h) z
    · rintro k y H' hy ⟨F', acc, hA, hlA, hall, hFD, G, cG, eG, hGD, rfl⟩
      have hk : k < xs.length := by rw [← hly]; exact (List.getElem?_eq_some_iff.mp hy).1
      have hx : xs[k]? = some xs[k] := List.getElem?_eq_getElem hk
      have hmem : xs[k] ∈ xs := List.getElem_mem hk
      have hz : (xs.map f)[k]? = some (f xs[k]) := by rw [List.getElem?_map, hx]; rfl
      obtain ⟨y', ey, ry⟩ := hl.get hz
      rw [hy] at ey
      cases ey
      -- the list that is being made, as something owned
      have cD : Ctx Z F' (upd G D (.lst acc)) (L2.wipe σ vs) (wipeG Γ vs) ((D, oX acc []) :: Ω) ∨ True := .inr trivial
      have cA : Ctx Z F' (upd G D (.lst acc)) (L2.wipe σ vs) (wipeG Γ vs) Ω := (cG.grow (A := ⟨fun _ _ => True, fun _ h => h⟩) (p := D) (o := .lst acc) hGD trivial).tail
      have pres : ∀ {F2 H2 : Hp}, Ext [] F' (upd G D (.lst acc)) F2 H2 → H2 D = some (.lst acc) := fun e2 => e2.fr D _ upd_same List.not_mem_nil
      have back : ∀ {F2 H2 : Hp} {σ2 : L2.St} {Γ2 : Gm}, Ctx Z F2 H2 σ2 Γ2 Ω → Ext [] F' (upd G D (.lst acc)) F2 H2 → F2 D = none ∧ ∃ G2, Ctx Z F2 G2 (L2.wipe σ vs) (wipeG Γ vs) Ω ∧ Ext [] F1 H1 F2 G2 ∧ G2 D = none ∧ ∀ o, upd H2 D o = upd G2 D o := fun {F2 H2 σ2 Γ2} c2 e2 => by
        have f2 : F2 D = none := e2.nw D (by rw [upd_same]; exact fun z => by cases z) hFD
        let G2 : Hp := fun b => if b = D then none else H2 b
        have g2 : ∀ b, b ≠ D → G2 b = H2 b := fun b hb => if_neg hb
        have gD : G2 D = none := if_pos rfl
        have hext : Ext [] F' G F2 G2 := by
          refine ⟨e2.fe, fun b o h hn => ?_, fun b h => ?_, fun b h1 h2 => ?_⟩
          · have hb : b ≠ D := ne_of_none h hGD
            rw [g2 b hb]
            exact e2.fr b o (by rw [upd_ne hb]; exact h) hn
          · by_cases hb : b = D
            · rw [hb]; exact hGD
            · rw [g2 b hb] at h
              have := e2.dm b h
              rw [upd_ne hb] at this
              exact this
          · have hb : b ≠ D := fun z => h1 (by rw [z]; exact hGD)
            exact e2.nw b (by rw [upd_ne hb]; exact h1) h2
        have hsub : Same F2 G2 := fun b o h => by
          have hb : b ≠ D := ne_of_none h f2
          rw [g2 b hb]
          exact c2.sub b o h
        refine ⟨f2, G2, cG.step hext hsub, eG.trans hext, gD, fun o => ?_⟩
        funext b
        unfold upd
        by_cases hb : b = D
        · rw [if_pos hb, if_pos hb]
        · rw [if_neg hb, if_neg hb, g2 b hb]
      refine hg xs[k] Z F' _ (L2.wipe σ vs) y Ω cA ((f xs[k]).mono eG.fe ry) _ fun σ2 c2 hσ => ⟨(hσ vs hw).trans ?_, ?_⟩
      · exact wipe_wipe σ vs
      refine ht xs[k] hmem Z F' _ σ2 c2 _ fun F3 H3 c3 e3 => ?_
      cases hc : cd xs[k] with
      | false =>
        refine iteF ?_
        obtain ⟨f3, G3, cG3, eG3, gD3, up3⟩ := back c3 e3
        refine ⟨F3, acc, pres e3, by omega, ?_, f3, G3, cG3, eG3, gD3, ?_⟩
        · rw [filter_take hx, hc, if_neg Bool.false_ne_true, List.append_nil]
          exact hall.mono e3.fe
        · have := up3 (.lst acc)
          rw [← this]
          funext b
          unfold upd
          by_cases hb : b = D
          · rw [if_pos hb, hb]; exact pres e3
          · rw [if_neg hb]
      | true =>
        refine iteT ?_
        refine he xs[k] hmem hc Z F3 H3 σ2 c3 _ fun w F4 H4 c4 e4 rw' => ?_
        have e34 := e3.trans e4
        obtain ⟨f4, G4, cG4, eG4, gD4, up4⟩ := back c4 e34
        refine ⟨acc, pres e34, Nat.lt_of_le_of_lt (Nat.le_trans hlA (Nat.le_of_lt (Nat.lt_of_lt_of_le hk hlen))) (by decide), F4, acc ++ [w], upd_same, by rw [List.length_append]; exact Nat.succ_le_succ hlA, ?_, f4, G4, cG4, eG4, gD4, up4 _⟩
        rw [filter_take hx, hc, if_pos rfl, List.map_append]
        exact (hall.mono e34.fe).app ⟨rw', trivial⟩
    · rintro H' ⟨F', acc, hA, _, hall, hFD, G, cG, eG, hGD, rfl⟩
      rw [hly, List.take_length] at hall
      obtain ⟨e', s'⟩ := Ext.new (o := .lst acc) cG.sub hGD
      exact q _ _ _ (c1.step (eG.trans e') s') (s1.trans (eG.trans e')) ⟨D, acc, rfl, SqL.of upd_same, hall.mono e'.fe⟩
end
section
variable {Γ : Gm} {Ω : Om} {K : PySem.W.Frag} {te tl : TE}
theorem et_yes : EvT Γ Ω tYes true := fun Z F H σ c Q q => q F H c (Ext.refl _ _ _)
theorem ev_lcA {α : Type} {xs : List α} {f : α → As} {g : TG} {vs : List Nat} (G' : α → Gm) (res : α → As) {ws : List Nat} (e : Ev Γ Ω tl (Ls K (xs.map f))) (hg : ∀ x, Gt (wipeG Γ vs) (f x) g (G' x) ws) (hw : ∀ i ∈ ws, i ∈ vs)
    (he : ∀ x ∈ xs, Ev (G' x) Ω te (res x)) (hlen : xs.length ≤ 100000) : Ev Γ Ω (tLc (iList K tl) g tYes te vs) (Ls K (xs.map res)) := by
  have z := ev_lc (K := K) (te := te) (tt := tYes) G' (fun _ => true) res e hg hw (fun _ _ => et_yes) (fun x hx _ => he x hx) hlen
  rw [List.filter_eq_self.mpr (fun _ _ => rfl)] at z
  exact z
end
/-! ## built-ins over lists of ints -/
section
variable {K : PySem.W.Frag} {Γ : Gm} {Ω : Om} {ta tb te : TE}
theorem all_map {F : Hp} {α : Type} {g : α → Int} : ∀ {xs : List α} {ys : List V}, All F (xs.map fun x => I (g x)) ys → ys = (xs.map g).map V.int
  | [], [], _ => rfl
  | x :: xs, y :: ys, h => by
    have e : y = V.int (g x) := h.1
    rw [e, all_map h.2]
    rfl
  | [], _ :: _, h => h.elim
  | _ :: _, [], h => h.elim
theorem rc_sum {α : Type} {xs : List α} {g : α → Int} : RC (rSum K) [Ls K (xs.map fun x => I (g x))] (I (xs.map g).sum) := fun F H vs s h Q q => by
  obtain ⟨v, rfl, a, ys, e, hs, hl⟩ := h.one
  cases e
  have z := all_map hl
  subst z
  exact ⟨a, xs.map g, rfl, s.seq hs, q _ F H (Ext.refl _ _ _) s rfl⟩
theorem rc_max2 {m n : Int} : RC (fun xs H Q => ∃ m n, xs = [.int m, .int n] ∧ Q (.int (if n > m then n else m)) H) [I m, I n] (I (max m n)) := fun F H vs s h Q q => by
  obtain ⟨v, w, rfl, e, e'⟩ := h.two
  cases e; cases e'
  refine ⟨m, n, rfl, ?_⟩
  have z : (if n > m then n else m) = max m n := by split <;> omega
  rw [z]
  exact q _ F H (Ext.refl _ _ _) s rfl
theorem rc_min2 {m n : Int} : RC (fun xs H Q => ∃ m n, xs = [.int m, .int n] ∧ Q (.int (if n < m then n else m)) H) [I m, I n] (I (min m n)) := fun F H vs s h Q q => by
  obtain ⟨v, w, rfl, e, e'⟩ := h.two
  cases e; cases e'
  refine ⟨m, n, rfl, ?_⟩
  have z : (if n < m then n else m) = min m n := by split <;> omega
  rw [z]
  exact q _ F H (Ext.refl _ _ _) s rfl
/-! pieces -/
abbrev Pie := Int × Int × Int × Int
def Pc (K : PySem.W.Frag) (p : Pie) : As := Tp K [I p.1, I p.2.1, I p.2.2.1, I p.2.2.2]
theorem ev_pc {ta : TA} {a b c d : Int} (h : EvA Γ Ω ta [I a, I b, I c, I d]) : Ev Γ Ω (tTup ta) (Pc K (a, b, c, d)) := ev_tup h (show 4 ≤ 1000 by decide)
theorem kd_pc : Kd K (Pc K) (fun p => .tuple [.int p.1, .int p.2.1, .int p.2.2.1, .int p.2.2.2]) 1 := ⟨fun q => isd_tup ⟨isd_int, isd_int, isd_int, isd_int, trivial⟩, fun q => gd_tup fun d hd => by
    simp only [List.mem_cons, List.not_mem_nil, or_false] at hd
    rcases hd with z | z | z | z <;> (subst z; exact gd_int), fun x y => by
    obtain ⟨a, b, c, d⟩ := x
    obtain ⟨a', b', c', d'⟩ := y
    simp [PyData.eqv, PyData.eqvAll]⟩
theorem atI_two (a b z : Int) : atI [I a, I b] (z % 2) = some (I (if z % 2 = 0 then a else b)) := by
  rcases Int.emod_two_eq z with h | h
  · rw [h]; rfl
  · rw [h]; rfl
theorem atI_map {α : Type} {f : α → As} {xs : List α} {i : Int} (h0 : 0 ≤ i) (h : i < (xs.length : Int)) : ∃ x, xs[i.toNat]? = some x ∧ atI (xs.map f) i = some (f x) := by
  have hk : i.toNat < xs.length := by omega
  have ek : i = ((i.toNat : Nat) : Int) := by omega
  refine ⟨xs[i.toNat], List.getElem?_eq_getElem hk, ?_⟩
  have z := atI_nat (xs := xs.map f) (j := i.toNat) (v := f xs[i.toNat]) (by rw [List.getElem?_map, List.getElem?_eq_getElem hk]; rfl)
  rw [← ek] at z
  exact z
theorem cutA_from {α : Type} {f : α → As} {xs : List α} {j k : Nat} : cutA (xs.map f) (some (j : Int)) (some (k : Int)) = ((xs.drop j).take (k - j)).map f := by
  unfold cutA
  rw [HT.sIx_nat, HT.sIx_nat, List.length_map, ← List.map_drop, ← List.map_take]
  congr 1
  by_cases hj : j ≤ xs.length
  · by_cases hk : k ≤ xs.length
    · rw [Nat.min_eq_left hj, Nat.min_eq_left hk]
    · rw [Nat.min_eq_left hj, Nat.min_eq_right (by omega), List.take_of_length_le (by rw [List.length_drop]; omega), List.take_of_length_le (by rw [List.length_drop]; omega)]
  · rw [List.drop_eq_nil_of_le (as := xs) (i := j) (by omega), List.drop_eq_nil_of_le (by rw [Nat.min_eq_right (by omega)]; omega), List.take_nil, List.take_nil]
theorem cutA_rest {α : Type} {f : α → As} {xs : List α} {j : Nat} : cutA (xs.map f) (some (j : Int)) none = (xs.drop j).map f := by
  unfold cutA
  rw [HT.sIx_nat, HT.sIx_none, List.length_map, ← List.map_drop, ← List.map_take]
  congr 1
  by_cases hj : j ≤ xs.length
  · rw [Nat.min_eq_left hj, List.take_of_length_le (by rw [List.length_drop]; omega)]
  · rw [List.drop_eq_nil_of_le (as := xs) (i := j) (by omega), List.drop_eq_nil_of_le (by rw [Nat.min_eq_right (by omega)]; omega), List.take_nil]
end
/-! ## what laws draw by -/
def mix (c k : Int) : Int :=
  let n := c % 2147483647 + 7919 * k + 1
  let m := (n * n + 48271 * n + 11) % 2147483647
  (m * m + 69621 * m + k) % 2147483647
theorem mix_lo (c k : Int) : 0 ≤ mix c k := Int.emod_nonneg _ (by decide)
theorem mix_hi (c k : Int) : mix c k < 2147483647 := Int.emod_lt_of_pos _ (by decide)
/-- a row that is one -/
structure GoodRow (few : Int) (m : Nat) (row : List Pie) : Prop where
  len : row.length ≤ m
  each : ∀ p ∈ row, 0 ≤ p.1 ∧ p.1 ≤ 1000000000000 ∧ 0 ≤ p.2.1 ∧ p.2.1 < few ∧ 1 ≤ p.2.2.1 ∧ p.2.2.1 ≤ 1000000 ∧ 1 ≤ p.2.2.2 ∧ p.2.2.2 ≤ 1000000
  up : row.Pairwise fun a b => a.1 ≤ b.1
end Y

namespace Y
open PySem L2
/-! ## what is walked -/
section
variable {Z : Bs} {F H F' H' : Hp} {σ σ' : L2.St} {Γ Γ' : Gm} {Ω Ω' : Om} {K : PySem.W.Frag} {te ta tb tl : TE} {tt : TT} {R Rx Ry : As} {Rs Ss : List As} {n : L2.St → Hp → Prop} {r : VK} {bk ct : L2.St → Hp → Prop}
/-- a source: its items, from the first to the last, each as f tells of it -/
def Src {α : Type} (Γ : Gm) (Ω : Om) (wi : TI) (xs : List α) (f : α → As) : Prop := ∀ (Z : Bs) (F H : Hp) (σ : L2.St), Ctx Z F H σ Γ Ω → ∀ R : It → Hp → Prop,
  (∀ J F1 H1, Ctx Z F1 H1 σ Γ Ω → Ext [] F H F1 H1 → (∀ (Z' : Bs) (F2 H2 : Hp) (σ2 : L2.St) (Γ2 : Gm) (Ω2 : Om), Ctx Z' F2 H2 σ2 Γ2 Ω2 → Same F1 F2 →
    J.stop xs.length H2 ∧ ∀ i x, xs[i]? = some x → J.go i H2 ∧ ∀ v H3, J.yld i H2 v H3 → ∃ F3, Ext [] F2 H2 F3 H3 ∧ Same F3 H3 ∧ (f x).p F3 v) → R J H1) → wi σ H R
theorem src_l {α : Type} {xs : List α} {f : α → As} (e : Ev Γ Ω tl (Ls K (xs.map f))) : Src Γ Ω (iList K tl) xs f := fun Z F H σ c R q => e Z F H σ c _ fun v F1 H1 c1 s1 rv => by
  obtain ⟨a, ys, ea, hs, hl⟩ := rv
  have hly : ys.length = xs.length := by rw [hl.length, List.length_map]
  refine ⟨a, ea, ⟨ys, c1.sub.seq hs⟩, q _ F1 H1 c1 s1 fun Z' F2 H2 σ2 Γ2 Ω2 c2 s2 => ?_⟩
  have hs2 := c2.sub.seq (s2.seq hs)
  refine ⟨⟨ys, hs2, Nat.le_of_eq hly⟩, fun i x hx => ?_⟩
  have hz : (xs.map f)[i]? = some (f x) := by rw [List.getElem?_map, hx]; rfl
  obtain ⟨y, ey, ry⟩ := hl.get hz
  refine ⟨⟨ys, y, hs2, ey⟩, fun v H3 hy => ?_⟩
  obtain ⟨e1, e2⟩ := hy
  subst e1
  have := e2 ys hs2
  rw [ey] at this
  cases this
  exact ⟨F2, Ext.refl _ _ _, c2.sub, (f x).mono s2 ry⟩
theorem src_t {α : Type} {xs : List α} {f : α → As} (e : Ev Γ Ω tl (Tp K (xs.map f))) : Src Γ Ω (iTup K tl) xs f := fun Z F H σ c R q => e Z F H σ c _ fun v F1 H1 c1 s1 rv => by
  obtain ⟨a, ys, ea, hs, hl⟩ := rv
  have hly : ys.length = xs.length := by rw [hl.length, List.length_map]
  refine ⟨a, ea, ⟨ys, same_seqT c1.sub hs⟩, q _ F1 H1 c1 s1 fun Z' F2 H2 σ2 Γ2 Ω2 c2 s2 => ?_⟩
  have hs2 := same_seqT c2.sub (same_seqT s2 hs)
  refine ⟨⟨ys, hs2, Nat.le_of_eq hly⟩, fun i x hx => ?_⟩
  have hz : (xs.map f)[i]? = some (f x) := by rw [List.getElem?_map, hx]; rfl
  obtain ⟨y, ey, ry⟩ := hl.get hz
  refine ⟨⟨ys, y, hs2, ey⟩, fun v H3 hy => ?_⟩
  obtain ⟨e1, e2⟩ := hy
  subst e1
  have := e2 ys hs2
  rw [ey] at this
  cases this
  exact ⟨F2, Ext.refl _ _ _, c2.sub, (f x).mono s2 ry⟩
/-- enumerate of a list: the pairs of place and item -/
def Et (K : PySem.W.Frag) {α : Type} (f : α → As) (p : α × Nat) : As := Tp K [I (p.2 : Int), f p.1]
theorem src_e {α : Type} {xs : List α} {f : α → As} {ta : TA} (e : EvA Γ Ω ta [Ls K (xs.map f)]) : Src Γ Ω (iEnum K ta) xs.zipIdx (Et K f) := fun Z F H σ c R q => e Z F H σ c _ fun vs F1 H1 c1 s1 rv => by
  obtain ⟨v, rfl, a, ys, ea, hs, hl⟩ := rv.one
  subst ea
  have hly : ys.length = xs.length := by rw [hl.length, List.length_map]
  refine ⟨a, ys, rfl, c1.sub.seq hs, q _ F1 H1 c1 s1 fun Z' F2 H2 σ2 Γ2 Ω2 c2 s2 => ?_⟩
  have hs2 := c2.sub.seq (s2.seq hs)
  refine ⟨⟨ys, hs2, by rw [List.length_zipIdx]; exact Nat.le_of_eq hly⟩, fun i x hx => ?_⟩
  rw [List.getElem?_zipIdx] at hx
  obtain ⟨x0, hx0, ex⟩ := Option.map_eq_some_iff.mp hx
  subst ex
  have hz : (xs.map f)[i]? = some (f x0) := by rw [List.getElem?_map, hx0]; rfl
  obtain ⟨y, ey, ry⟩ := hl.get hz
  refine ⟨⟨ys, y, hs2, ey⟩, fun v H3 hy => ?_⟩
  obtain ⟨T, x', ev, hT, eH, e2⟩ := hy
  subst ev eH
  have := e2 ys hs2
  rw [ey] at this
  cases this
  obtain ⟨e3, s3⟩ := Ext.new (o := .tup [.int (i : Nat), y]) c2.sub hT
  refine ⟨_, e3, s3, T, _, rfl, SqT.of upd_same, ?_, (f x0).mono (s2.trans e3.fe) ry, trivial⟩
  show V.int _ = V.int _
  simp
theorem src_r1 {ta : TA} {j : Int} (e : EvA Γ Ω ta [I j]) (h0 : -(2 ^ 62) ≤ j) (h1 : j < 2 ^ 62) : Src Γ Ω (iRng1 ta) (List.range j.toNat) (fun k => I (k : Int)) := fun Z F H σ c R q => e Z F H σ c _ fun vs F1 H1 c1 s1 rv => by
  obtain ⟨v, rfl, ev⟩ := rv.one
  cases ev
  refine ⟨j, rfl, h0, h1, q _ F1 H1 c1 s1 fun Z' F2 H2 σ2 Γ2 Ω2 c2 s2 => ?_⟩
  refine ⟨by rw [List.length_range]; exact Nat.le_refl _, fun i x hx => ?_⟩
  obtain ⟨hi, ei⟩ := List.getElem?_eq_some_iff.mp hx
  rw [List.length_range] at hi
  rw [List.getElem_range] at ei
  subst ei
  refine ⟨hi, fun v H3 hy => ?_⟩
  obtain ⟨e1, e2⟩ := hy
  subst e1 e2
  exact ⟨F2, Ext.refl _ _ _, c2.sub, by show V.int (0 + (i : Int)) = V.int (i : Int); rw [Int.zero_add]⟩
theorem src_r2 {ta : TA} {i j : Int} (e : EvA Γ Ω ta [I i, I j]) (h : -(2 ^ 62) ≤ i ∧ i < 2 ^ 62 ∧ -(2 ^ 62) ≤ j ∧ j < 2 ^ 62) : Src Γ Ω (iRng2 ta) (List.range (j - i).toNat) (fun k => I (i + (k : Int))) := fun Z F H σ c R q => e Z F H σ c _ fun vs F1 H1 c1 s1 rv => by
  obtain ⟨v, w, rfl, ev, ew⟩ := rv.two
  cases ev; cases ew
  refine ⟨i, j, rfl, h, q _ F1 H1 c1 s1 fun Z' F2 H2 σ2 Γ2 Ω2 c2 s2 => ?_⟩
  refine ⟨by rw [List.length_range]; exact Nat.le_refl _, fun k x hx => ?_⟩
  obtain ⟨hi, ei⟩ := List.getElem?_eq_some_iff.mp hx
  rw [List.length_range] at hi
  rw [List.getElem_range] at ei
  subst ei
  refine ⟨hi, fun v H3 hy => ?_⟩
  obtain ⟨e1, e2⟩ := hy
  subst e1 e2
  exact ⟨F2, Ext.refl _ _ _, c2.sub, rfl⟩
theorem src_r3 {ta : TA} {i j : Int} (e : EvA Γ Ω ta [I i, I j, I (-1)]) (h : -(2 ^ 62) ≤ i ∧ i < 2 ^ 62 ∧ -(2 ^ 62) ≤ j ∧ j < 2 ^ 62) : Src Γ Ω (iRng3 ta) (List.range (i - j).toNat) (fun k => I (i - (k : Int))) := fun Z F H σ c R q => e Z F H σ c _ fun vs F1 H1 c1 s1 rv => by
  match vs, rv.length with
  | [v, w, u], _ =>
    obtain ⟨ev, ew, eu, _⟩ := rv
    cases ev; cases ew; cases eu
    refine ⟨i, j, -1, _, rfl, RgC.neg h.1 h.2.1 h.2.2.1 h.2.2.2, q _ F1 H1 c1 s1 fun Z' F2 H2 σ2 Γ2 Ω2 c2 s2 => ?_⟩
    refine ⟨by rw [List.length_range]; exact Nat.le_refl _, fun k x hx => ?_⟩
    obtain ⟨hi, ei⟩ := List.getElem?_eq_some_iff.mp hx
    rw [List.length_range] at hi
    rw [List.getElem_range] at ei
    subst ei
    refine ⟨hi, fun v H3 hy => ?_⟩
    obtain ⟨e1, e2⟩ := hy
    subst e1 e2
    exact ⟨F2, Ext.refl _ _ _, c2.sub, by show V.int _ = V.int _; congr 1; omega⟩
theorem src_len {wi : TI} {f : Nat → As} {a b : Nat} (h : Src Γ Ω wi (List.range ((a : Int)).toNat) f) (e : a = b) : Src Γ Ω wi (List.range ((b : Int)).toNat) f := e ▸ h
/-! ## for, comprehensions over any of these -/
theorem st_forS {ι α : Type} {wi : TI} {g : TG} {tb : TS} {xs : List α} {f : α → As} (G : ι → Gm) (G' : α → ι → Gm) (O : ι → Om) (P : Nat → ι → Prop) {ws : List Nat} (i0 : ι) (c : Ctx Z F H σ (G i0) (O i0)) (e : Src (G i0) (O i0) wi xs f) (p0 : P 0 i0)
    (hg : ∀ x i, Gt (G i) (f x) g (G' x i) ws)
    (body : ∀ k x i G1 F H σ (N : L2.St → Hp → Prop), xs[k]? = some x → P k i → Ctx (Z.pin G1) F H σ (G' x i) (O i) → (∀ j F' H' σ', P (k + 1) j → Ctx (Z.pin G1) F' H' σ' (G j) (O j) → N σ' H') → tb ⟨N, r, n, N⟩ σ H)
    (hd : ∀ i F H σ, P xs.length i → Ctx Z F H σ (G i) (O i) → n σ H) : tFor wi g tb ⟨n, r, bk, ct⟩ σ H := by
  refine e Z F H σ c _ fun J F1 H1 c1 s1 src => ?_
  refine ⟨fun k m σ H => m = xs.length - k ∧ k ≤ xs.length ∧ ∃ i F, P k i ∧ Ctx (Z.pin F1) F H σ (G i) (O i), ⟨_, rfl, Nat.zero_le _, i0, F1, p0, c1.topin (Same.refl _)⟩, ?_⟩
  rintro k m σ H ⟨rfl, hkn, i, F, p, cc⟩
  obtain ⟨stop, go⟩ := src _ F H σ _ _ cc cc.pin
  rcases Nat.lt_or_eq_of_le hkn with hk | hk
  · have hx : xs[k]? = some xs[k] := List.getElem?_eq_getElem hk
    obtain ⟨g1, yl⟩ := go k xs[k] hx
    refine .inr ⟨g1, fun σ' H' => ∃ i F, P (k + 1) i ∧ Ctx (Z.pin F1) F H' σ' (G i) (O i), fun σ' H' p' => ⟨xs.length - (k + 1), by omega, rfl, hk, p'⟩, fun v H3 hy => ?_⟩
    obtain ⟨F3, e3, s3, rv⟩ := yl v H3 hy
    refine hg xs[k] i (Z.pin F1) F3 H3 σ v (O i) (cc.step e3 s3) rv _ fun σ' c' _ => ?_
    exact body k xs[k] i F1 F3 H3 σ' _ hx p c' fun j F' H' σ'' pj cj => ⟨j, F', pj, cj⟩
  · subst hk
    exact .inl ⟨stop, hd i F H σ p (cc.unpin c1.pin)⟩
theorem ev_lcS {α : Type} {wi : TI} {xs : List α} {f : α → As} {g : TG} {vs : List Nat} (G' : α → Gm) (cd : α → Bool) (res : α → As) {ws : List Nat} (e : Src Γ Ω wi xs f) (hg : ∀ x, Gt (wipeG Γ vs) (f x) g (G' x) ws) (hw : ∀ i ∈ ws, i ∈ vs)
    (ht : ∀ x ∈ xs, EvT (G' x) Ω tt (cd x)) (he : ∀ x ∈ xs, cd x = true → Ev (G' x) Ω te (res x)) (hlen : xs.length ≤ 100000) : Ev Γ Ω (tLc wi g tt te vs) (Ls K ((xs.filter cd).map res)) := fun Z F H σ c Q q =>
  e Z F H σ c _ fun J F1 H1 c1 s1 src => by
    intro D hD
    have cw : Ctx Z F1 H1 (L2.wipe σ vs) (wipeG Γ vs) Ω := c1.slots (c1.sat.wipe vs)
    let Pv : Nat → Hp → Prop := (fun k H' => ∃ F' acc, H' D = some (.lst acc) ∧ acc.length ≤ k ∧ All F' (((xs.take k).filter cd).map res) acc ∧ F' D = none ∧ ∃ G, Ctx Z F' G (L2.wipe σ vs) (wipeG Γ vs) Ω ∧ Ext [] F1 H1 F' G ∧ G D = none ∧ H' = upd G D (.lst acc))
    refine ⟨fun i m H => m = xs.length - i ∧ i ≤ xs.length ∧ Pv i H, ⟨_, rfl, Nat.zero_le _, F1, [], upd_same, Nat.zero_le _, trivial, c1.sub.free hD, H1, cw, Ext.refl _ _ _, hD, rfl⟩, ?_⟩
    rintro k m Hc ⟨rfl, hkn, pk⟩
    rcases Nat.lt_or_eq_of_le hkn with hk | hk
    · obtain ⟨F', acc, hA, hlA, hall, hFD, G, cG, eG, hGD, rfl⟩ := pk
      have hx : xs[k]? = some xs[k] := List.getElem?_eq_getElem hk
      have hmem : xs[k] ∈ xs := List.getElem_mem hk
      have cA0 : Ctx Z F' (upd G D (.lst acc)) (L2.wipe σ vs) (wipeG Γ vs) Ω := (cG.grow (A := ⟨fun _ _ => True, fun _ h => h⟩) (p := D) (o := .lst acc) hGD trivial).tail
      obtain ⟨go, yl⟩ := (src Z F' _ _ _ _ cA0 eG.fe).2 k xs[k] hx
      refine .inr ⟨go, Pv (k + 1), fun H' p' => ⟨xs.length - (k + 1), by omega, rfl, hk, p'⟩, fun y H' hy => ?_⟩
      obtain ⟨F0, e0, s0, ry⟩ := yl y H' hy
      -- the list that is being made, as something owned
      have cA : Ctx Z F0 H' (L2.wipe σ vs) (wipeG Γ vs) Ω := cA0.step e0 s0
      have pres : ∀ {F2 H2 : Hp}, Ext [] F' (upd G D (.lst acc)) F2 H2 → H2 D = some (.lst acc) := fun e2 => e2.fr D _ upd_same List.not_mem_nil
      have back : ∀ {F2 H2 : Hp} {σ2 : L2.St} {Γ2 : Gm}, Ctx Z F2 H2 σ2 Γ2 Ω → Ext [] F' (upd G D (.lst acc)) F2 H2 → F2 D = none ∧ ∃ G2, Ctx Z F2 G2 (L2.wipe σ vs) (wipeG Γ vs) Ω ∧ Ext [] F1 H1 F2 G2 ∧ G2 D = none ∧ ∀ o, upd H2 D o = upd G2 D o := fun {F2 H2 σ2 Γ2} c2 e2 => by
        have f2 : F2 D = none := e2.nw D (by rw [upd_same]; exact fun z => by cases z) hFD
        let G2 : Hp := fun b => if b = D then none else H2 b
        have g2 : ∀ b, b ≠ D → G2 b = H2 b := fun b hb => if_neg hb
        have gD : G2 D = none := if_pos rfl
        have hext : Ext [] F' G F2 G2 := by
          refine ⟨e2.fe, fun b o h hn => ?_, fun b h => ?_, fun b h1 h2 => ?_⟩
          · have hb : b ≠ D := ne_of_none h hGD
            rw [g2 b hb]
            exact e2.fr b o (by rw [upd_ne hb]; exact h) hn
          · by_cases hb : b = D
            · rw [hb]; exact hGD
            · rw [g2 b hb] at h
              have := e2.dm b h
              rw [upd_ne hb] at this
              exact this
          · have hb : b ≠ D := fun z => h1 (by rw [z]; exact hGD)
            exact e2.nw b (by rw [upd_ne hb]; exact h1) h2
        have hsub : Same F2 G2 := fun b o h => by
          have hb : b ≠ D := ne_of_none h f2
          rw [g2 b hb]
          exact c2.sub b o h
        refine ⟨f2, G2, cG.step hext hsub, eG.trans hext, gD, fun o => ?_⟩
        funext b
        unfold upd
        by_cases hb : b = D
        · rw [if_pos hb, if_pos hb]
        · rw [if_neg hb, if_neg hb, g2 b hb]
      refine hg xs[k] Z F0 _ (L2.wipe σ vs) y Ω cA ry _ fun σ2 c2 hσ => ⟨(hσ vs hw).trans ?_, ?_⟩
      · exact wipe_wipe σ vs
      refine ht xs[k] hmem Z F0 _ σ2 c2 _ fun F3 H3 c3 e3' => ?_
      have e3 := e0.trans e3'
      cases hc : cd xs[k] with
      | false =>
        refine iteF ?_
        obtain ⟨f3, G3, cG3, eG3, gD3, up3⟩ := back c3 e3
        refine ⟨F3, acc, pres e3, by omega, ?_, f3, G3, cG3, eG3, gD3, ?_⟩
        · rw [filter_take hx, hc, if_neg Bool.false_ne_true, List.append_nil]
          exact hall.mono e3.fe
        · have := up3 (.lst acc)
          rw [← this]
          funext b
          unfold upd
          by_cases hb : b = D
          · rw [if_pos hb, hb]; exact pres e3
          · rw [if_neg hb]
      | true =>
        refine iteT ?_
        refine he xs[k] hmem hc Z F3 H3 σ2 c3 _ fun w F4 H4 c4 e4 rw' => ?_
        have e34 := e3.trans e4
        obtain ⟨f4, G4, cG4, eG4, gD4, up4⟩ := back c4 e34
        refine ⟨acc, pres e34, Nat.lt_of_le_of_lt (Nat.le_trans hlA (Nat.le_of_lt (Nat.lt_of_lt_of_le hk hlen))) (by decide), F4, acc ++ [w], upd_same, by rw [List.length_append]; exact Nat.succ_le_succ hlA, ?_, f4, G4, cG4, eG4, gD4, up4 _⟩
        rw [filter_take hx, hc, if_pos rfl, List.map_append]
        exact (hall.mono e34.fe).app ⟨rw', trivial⟩
    · subst hk
      obtain ⟨F', acc, hA, _, hall, hFD, G, cG, eG, hGD, rfl⟩ := pk
      have cA0 : Ctx Z F' (upd G D (.lst acc)) (L2.wipe σ vs) (wipeG Γ vs) Ω := (cG.grow (A := ⟨fun _ _ => True, fun _ h => h⟩) (p := D) (o := .lst acc) hGD trivial).tail
      refine .inl ⟨(src Z F' _ _ _ _ cA0 eG.fe).1, ?_⟩
      rw [List.take_length] at hall
      obtain ⟨e', s'⟩ := Ext.new (o := .lst acc) cG.sub hGD
      exact q _ _ _ (c1.step (eG.trans e') s') (s1.trans (eG.trans e')) ⟨D, acc, rfl, SqL.of upd_same, hall.mono e'.fe⟩

theorem ev_lcSA {α : Type} {wi : TI} {xs : List α} {f : α → As} {g : TG} {vs : List Nat} (G' : α → Gm) (res : α → As) {ws : List Nat} (e : Src Γ Ω wi xs f) (hg : ∀ x, Gt (wipeG Γ vs) (f x) g (G' x) ws) (hw : ∀ i ∈ ws, i ∈ vs)
    (he : ∀ x ∈ xs, Ev (G' x) Ω te (res x)) (hlen : xs.length ≤ 100000) : Ev Γ Ω (tLc wi g tYes te vs) (Ls K (xs.map res)) := by
  have z := ev_lcS (K := K) (te := te) (tt := tYes) G' (fun _ => true) res e hg hw (fun _ _ => et_yes) (fun x hx _ => he x hx) hlen
  rw [List.filter_eq_self.mpr (fun _ _ => rfl)] at z
  exact z
end
/-! ## what may be None -/
def Op {α : Type} (R : α → As) : Option α → As
  | none => Nn
  | some x => R x
/-- never None -/
def Nev (R : As) : Prop := ∀ F v, R.p F v → v ≠ .non
section
variable {Γ : Gm} {Ω : Om} {K : PySem.W.Frag} {ta tb : TE}
theorem nev_tp {Rs : List As} : Nev (Tp K Rs) := fun F v h e => by
  obtain ⟨a, xs, e', _⟩ := h
  rw [e] at e'; cases e'
theorem nev_ls {Rs : List As} : Nev (Ls K Rs) := fun F v h e => by
  obtain ⟨a, xs, e', _⟩ := h
  rw [e] at e'; cases e'
theorem nev_c {w : V} (h : w ≠ .non) : Nev (Cst w) := fun F v e z => h (e.symm.trans z)
theorem op_is {α : Type} {R : α → As} (h : ∀ x, Nev (R x)) {o : Option α} {F : Hp} {v : V} (r : (Op R o).p F v) : decide (v = .non) = o.isNone := by
  cases o with
  | none =>
    have e : v = .non := r
    subst e; rfl
  | some x => exact decide_eq_false (h x F v r)
theorem ev_isNO {α : Type} {R : α → As} {o : Option α} (h : ∀ x, Nev (R x)) (ha : Ev Γ Ω ta (Op R o)) : Ev Γ Ω (tOp (fun x y H Q => y = .non ∧ Q (.bl (decide (x = .non))) H) ta (tC .non)) (B o.isNone) := fun Z F H σ c Q q =>
  ha Z F H σ c _ fun x F1 H1 c1 s1 rx => ⟨rfl, by rw [op_is h rx]; exact q _ F1 H1 c1 s1 rfl⟩
theorem ev_notNO {α : Type} {R : α → As} {o : Option α} (h : ∀ x, Nev (R x)) (ha : Ev Γ Ω ta (Op R o)) : Ev Γ Ω (tOp (fun x y H Q => y = .non ∧ Q (.bl (!decide (x = .non))) H) ta (tC .non)) (B (!o.isNone)) := fun Z F H σ c Q q =>
  ha Z F H σ c _ fun x F1 H1 c1 s1 rx => ⟨rfl, by rw [op_is h rx]; exact q _ F1 H1 c1 s1 rfl⟩
theorem ev_isBl {a b : Bool} (ha : Ev Γ Ω ta (B a)) (hb : Ev Γ Ω tb (B b)) : Ev Γ Ω (tOp rIsB ta tb) (B (decide (a = b))) := ev_op ha hb fun F H x y s e e' Q q => ⟨a, b, e, e', q _ F H (Ext.refl _ _ _) s rfl⟩
theorem ev_notBl {a b : Bool} (ha : Ev Γ Ω ta (B a)) (hb : Ev Γ Ω tb (B b)) : Ev Γ Ω (tOp rNotB ta tb) (B (!decide (a = b))) := ev_op ha hb fun F H x y s e e' Q q => ⟨a, b, e, e', q _ F H (Ext.refl _ _ _) s rfl⟩
end
end Y

namespace Y
open PySem L2 PySem.Spec
open PyProof.Rows (envOfC)
/-! ## instances -/
def AllF (F : Hp) : List (Str × As) → List (Str × V) → Prop
  | [], [] => True
  | (f, R) :: r, (g, v) :: vs => f = g ∧ R.p F v ∧ AllF F r vs
  | _, _ => False
theorem AllF.mono {F F' : Hp} (s : Same F F') : ∀ {fs : List (Str × As)} {vs : List (Str × V)}, AllF F fs vs → AllF F' fs vs
  | [], [], _ => trivial
  | (_, R) :: _, (_, _) :: _, h => ⟨h.1, R.mono s h.2.1, AllF.mono s h.2.2⟩
  | [], _ :: _, h => h.elim
  | _ :: _, [], h => h.elim
theorem AllF.length {F : Hp} : ∀ {fs : List (Str × As)} {vs : List (Str × V)}, AllF F fs vs → vs.length = fs.length
  | [], [], _ => rfl
  | (_, _) :: _, (_, _) :: _, h => congrArg (· + 1) (AllF.length h.2.2)
  | [], _ :: _, h => h.elim
  | _ :: _, [], h => h.elim
theorem AllF.get {F : Hp} {f : Str} {R : As} : ∀ {fs : List (Str × As)} {vs : List (Str × V)}, AllF F fs vs → fs.lookup f = some R → ∃ v, vs.lookup f = some v ∧ R.p F v
  | [], [], _, e => by simp at e
  | (g, S) :: r, (g', v) :: vs, h, e => by
    obtain ⟨h1, h2, h3⟩ := h
    subst h1
    rw [List.lookup_cons] at e ⊢
    cases q : (f == g) with
    | true =>
      rw [q] at e
      have e' : S = R := Option.some.inj e
      subst e'
      exact ⟨v, rfl, h2⟩
    | false =>
      rw [q] at e
      exact AllF.get h3 e
  | [], _ :: _, h, _ => h.elim
  | _ :: _, [], h, _ => h.elim
theorem AllF.none {F : Hp} {f : Str} : ∀ {fs : List (Str × As)} {vs : List (Str × V)}, AllF F fs vs → fs.lookup f = none → vs.lookup f = none
  | [], [], _, _ => rfl
  | (g, S) :: r, (g', v) :: vs, h, e => by
    obtain ⟨h1, h2, h3⟩ := h
    subst h1
    rw [List.lookup_cons] at e ⊢
    cases q : (f == g) with
    | true =>
      rw [q] at e
      cases e
    | false =>
      rw [q] at e
      exact AllF.none h3 e
  | [], _ :: _, h, _ => h.elim
  | _ :: _, [], h, _ => h.elim
def putA (f : Str) (R : As) : List (Str × As) → List (Str × As)
  | [] => [(f, R)]
  | (g, S) :: r => if g = f then (g, R) :: r else (g, S) :: putA f R r
theorem AllF.put {F : Hp} {f : Str} {R : As} {v : V} (q : R.p F v) : ∀ {fs : List (Str × As)} {vs : List (Str × V)}, AllF F fs vs → AllF F (putA f R fs) (putF f v vs)
  | [], [], _ => ⟨rfl, q, trivial⟩
  | (g, S) :: r, (g', w) :: vs, h => by
    obtain ⟨h1, h2, h3⟩ := h
    subst h1
    unfold putA putF
    split
    · exact ⟨rfl, q, h3⟩
    · exact ⟨rfl, h2, AllF.put q h3⟩
  | [], _ :: _, h => h.elim
  | _ :: _, [], h => h.elim
def oI (C dx : Addr) (fs : List (Str × As)) : OA := ⟨fun F o => ∃ vs, o = .ins C dx vs ∧ AllF F fs vs, fun s h => by
  obtain ⟨vs, e, q⟩ := h; exact ⟨vs, e, q.mono s⟩⟩
section
variable {Z : Bs} {F H F' H' : Hp} {σ σ' : L2.St} {Γ Γ' : Gm} {Ω Ω' : Om} {K : PySem.W.Frag} {te ta tb tl : TE} {tt : TT} {R Rx Ry : As} {Rs Ss : List As} {n : L2.St → Hp → Prop} {r : VK} {bk ct : L2.St → Hp → Prop} {p C dx : Addr} {fs : List (Str × As)} {f : Str} {j : Nat}
theorem ev_fld (ha : Ev Γ Ω ta (Rf p)) (hm : Ω[j]? = some (p, oI C dx fs)) (hc : Cls K C) (hn : NoAttr K C f) (hl : fs.lookup f = some R) : Ev Γ Ω (tFld K ta f) R := fun Z F H σ c Q q =>
  ha Z F H σ c _ fun x F1 H1 c1 s1 rx => by
    cases rx
    obtain ⟨_, o, h2, vs, e, ha⟩ := c1.own _ (List.mem_of_getElem? hm)
    subst e
    obtain ⟨v, e1, rv⟩ := ha.get hl
    exact ⟨p, C, dx, vs, v, rfl, h2, hc, hn, e1, q v F1 H1 c1 s1 rv⟩
theorem st_fld (c : Ctx Z F H σ Γ Ω) (e : Ev Γ Ω te R) (ha : Ev Γ Ω ta (Rf p)) (hm : Ω[j]? = some (p, oI C dx fs)) (hc : Cls K C) (hn : NoAttr K C f) (hl : fs.length < 1000) (k : ∀ F' H', Ctx Z F' H' σ Γ (Ω.set j (p, oI C dx (putA f R fs))) → Same F F' → n σ H') (hro : Z.ro = [] := by rfl) :
    sFld K ta te f ⟨n, r, bk, ct⟩ σ H := e Z F H σ c _ fun y F1 H1 c1 s1 ry => ha Z F1 H1 σ c1 _ fun x F2 H2 c2 s2 rx => by
  cases rx
  obtain ⟨_, o, h2, vs, eo, ha⟩ := c2.own _ (List.mem_of_getElem? hm)
  subst eo
  refine ⟨p, C, dx, vs, rfl, h2, hc, hn, by rw [ha.length]; exact hl, ?_⟩
  exact k F2 _ (c2.chg hm ⟨_, rfl, ha.put (R.mono s2.fe ry)⟩ (c2.wr hm hro)) (s1.trans s2).fe
end
/-! ## contracts of methods: those that read, those that change -/
def CtR {α : Type} (args : α → List As) (Oi : α → Om) (pre : α → Prop) (res : α → As) : Sp := fun vs H Q _ =>
  ∃ a F, Same F H ∧ All F (args a) vs ∧ Own F H (Oi a) ∧ ((Oi a).map (·.1)).Nodup ∧ pre a ∧ ∀ v F' H', Ext [] F H F' H' → Same F' H' → (res a).p F' v → Q v H'
def CtM {α : Type} (args : α → List As) (Oi : α → Om) (pre : α → Prop) (res : α → As) (Oo : α → Om) : Sp := fun vs H Q _ =>
  ∃ a F, Same F H ∧ All F (args a) vs ∧ Own F H (Oi a) ∧ ((Oi a).map (·.1)).Nodup ∧ pre a ∧ ∀ v F' H', Ext ((Oi a).map (·.1)) F H F' H' → Same F' H' → (res a).p F' v → Own F' H' (Oo a) → Q v H'
theorem CtR.len {α : Type} {args : α → List As} {Oi : α → Om} {pre : α → Prop} {res : α → As} {n : Nat} (h : ∀ a, (args a).length = n) : ∀ vs H Q E, CtR args Oi pre res vs H Q E → vs.length = n := by
  rintro vs H Q E ⟨a, F, _, ha, _⟩
  rw [ha.length, h]
theorem CtM.len {α : Type} {args : α → List As} {Oi Oo : α → Om} {pre : α → Prop} {res : α → As} {n : Nat} (h : ∀ a, (args a).length = n) : ∀ vs H Q E, CtM args Oi pre res Oo vs H Q E → vs.length = n := by
  rintro vs H Q E ⟨a, F, _, ha, _⟩
  rw [ha.length, h]
theorem ctx_startR {F H : Hp} {Rs : List As} {vs : List V} {N : List Str} {Ω : Om} (s : Same F H) (h : All F Rs vs) (o : Own F H Ω) (nd : (Ω.map (·.1)).Nodup) : Ctx ⟨F, H, [], F, Ω.map (·.1)⟩ F H (L2.start N vs) (Rs.map some ++ List.replicate (N.length - Rs.length) none) Ω := by
  refine ⟨?_, s, o, nd, fun x h => .inr (.inr (List.mem_map.mpr ⟨x, h, rfl⟩)), Ext.refl _ _ _, Same.refl _⟩
  unfold L2.start
  rw [h.length]
  exact sat_start _ h
theorem ctx_startM {F H : Hp} {Rs : List As} {vs : List V} {N : List Str} {Ω : Om} (s : Same F H) (h : All F Rs vs) (o : Own F H Ω) (nd : (Ω.map (·.1)).Nodup) : Ctx ⟨F, H, Ω.map (·.1), F, []⟩ F H (L2.start N vs) (Rs.map some ++ List.replicate (N.length - Rs.length) none) Ω := by
  refine ⟨?_, s, o, nd, fun x h => .inl (List.mem_map.mpr ⟨x, h, rfl⟩), Ext.refl _ _ _, Same.refl _⟩
  unfold L2.start
  rw [h.length]
  exact sat_start _ h
section
variable {Z : Bs} {F H F' H' : Hp} {σ σ' : L2.St} {Γ Γ' : Gm} {Ω Ω' Ωr : Om} {K : PySem.W.Frag} {te ta tb tl : TE} {tt : TT} {R Rx Ry : As} {Rs Ss : List As} {n : L2.St → Hp → Prop} {r : VK} {bk ct : L2.St → Hp → Prop} {p C dx : Addr} {fs : List (Str × As)} {f m : Str} {j : Nat} {E : XK}
theorem Own.sub (h : Own F H Ω) (s : ∀ x, x ∈ Ω' → x ∈ Ω) : Own F H Ω' := fun x hx => h x (s x hx)
theorem nodup_sub (h : (Ω.map (·.1)).Nodup) (s : Ω'.Sublist Ω) : (Ω'.map (·.1)).Nodup := (s.map _).nodup h
/-- o.m(e, ..), a method that reads -/
theorem ev_meth {α : Type} {args : α → List As} {Oi : α → Om} {pre : α → Prop} {res : α → As} {t : TA} (a : α) (ho : Ev Γ Ω ta (Rf p)) (hm : Ω[j]? = some (p, oI C dx fs)) (hn : fs.lookup m = none) (h : EvA Γ Ω t Rs) (ha : args a = Rf p :: Rs) (hs : (Oi a).Sublist Ω) (hp : pre a) :
    Ev Γ Ω (tMeth C m (CtR args Oi pre res) [] E ta t) (res a) := fun Z F H σ c Q q =>
  ho Z F H σ c _ fun x F1 H1 c1 s1 rx => by
    cases rx
    obtain ⟨_, o, h2, vs, eo, hf⟩ := c1.own _ (List.mem_of_getElem? hm)
    subst eo
    refine ⟨p, dx, vs, rfl, h2, hf.none hn, h Z F1 H1 σ c1 _ fun ws F2 H2 c2 s2 rs => ?_⟩
    refine ⟨a, F2, c2.sub, ?_, c2.own.sub fun x hx => hs.subset hx, nodup_sub c2.nd hs, hp, fun v F3 H3 e3 s3 rv => q v F3 H3 (c2.step e3 s3) (s1.trans (s2.trans e3)) rv⟩
    rw [ha, List.append_nil]
    exact ⟨rfl, rs⟩
theorem Ctx.perm (c : Ctx Z F H σ Γ Ω) (h : Ω.Perm Ω') : Ctx Z F H σ Γ Ω' :=
  ⟨c.sat, c.sub, fun x hx => c.own x (h.mem_iff.mpr hx), (h.map _).nodup_iff.mp c.nd, fun x hx => c.loc x (h.mem_iff.mpr hx), c.ext, c.pin⟩
/-- behind a call that changes what it owns -/
theorem Ctx.changed {Ωi Ωo : Om} (c : Ctx Z F H σ Γ (Ωi ++ Ωr)) (e : Ext (Ωi.map (·.1)) F H F' H') (s : Same F' H') (o : Own F' H' Ωo) (ha : Ωo.map (·.1) = Ωi.map (·.1)) (hro : Z.ro = []) : Ctx Z F' H' σ Γ (Ωo ++ Ωr) := by
  have nd := c.nd
  rw [List.map_append, List.nodup_append] at nd
  have dis : ∀ x, x ∈ Ωr → x.1 ∉ Ωi.map (·.1) := fun x hx hi => nd.2.2 _ hi _ (List.mem_map.mpr ⟨x, hx, rfl⟩) rfl
  have wr : ∀ a, a ∈ Ωi.map (·.1) → a ∈ Z.ft ∨ Z.H a = none := fun a ha => by
    obtain ⟨x, hx, rfl⟩ := List.mem_map.mp ha
    rcases c.loc x (List.mem_append_left _ hx) with l | l | l
    · exact .inl l
    · exact .inr l
    · rw [hro] at l; exact absurd l List.not_mem_nil
  refine ⟨c.sat.mono e.fe, s, fun x hx => ?_, ?_, fun x hx => ?_, c.ext.transL e wr, c.pin.trans e.fe⟩
  · rcases List.mem_append.mp hx with hx | hx
    · exact o x hx
    · obtain ⟨h1, o', h2, h3⟩ := c.own x (List.mem_append_right _ hx)
      exact ⟨e.nw _ (by rw [h2]; exact fun z => by cases z) h1, o', e.fr _ _ h2 (dis x hx), x.2.mono e.fe h3⟩
  · rw [List.map_append, ha, ← List.map_append]
    exact c.nd
  · rcases List.mem_append.mp hx with hx | hx
    · have : x.1 ∈ Ωi.map (·.1) := by rw [← ha]; exact List.mem_map.mpr ⟨x, hx, rfl⟩
      rcases wr _ this with l | l
      · exact .inl l
      · exact .inr (.inl l)
    · exact c.loc x (List.mem_append_right _ hx)
/-- o.m(e, ..), a method that changes; k: behind it, with its value -/
theorem st_meth {α : Type} {args : α → List As} {Oi Oo : α → Om} {pre : α → Prop} {res : α → As} {t : TA} {Q : VK} (a : α) (c : Ctx Z F H σ Γ Ω) (ho : Ev Γ Ω ta (Rf p)) (hm : Ω[j]? = some (p, oI C dx fs)) (hn : fs.lookup m = none) (h : EvA Γ Ω t Rs) (ha : args a = Rf p :: Rs) (hs : Ω.Perm (Oi a ++ Ωr)) (hp : pre a)
    (hoo : (Oo a).map (·.1) = (Oi a).map (·.1)) (k : ∀ v F' H', Ctx Z F' H' σ Γ (Oo a ++ Ωr) → Same F F' → (res a).p F' v → Q v H') (hro : Z.ro = [] := by rfl) : tMeth C m (CtM args Oi pre res Oo) [] E ta t σ H Q :=
  ho Z F H σ c _ fun x F1 H1 c1 s1 rx => by
    cases rx
    obtain ⟨_, o, h2, vs, eo, hf⟩ := c1.own _ (List.mem_of_getElem? hm)
    subst eo
    refine ⟨p, dx, vs, rfl, h2, hf.none hn, h Z F1 H1 σ c1 _ fun ws F2 H2 c2 s2 rs => ?_⟩
    have cp := c2.perm hs
    refine ⟨a, F2, c2.sub, ?_, cp.own.sub fun x hx => List.mem_append_left _ hx, ?_, hp, fun v F3 H3 e3 s3 rv ow => k v F3 H3 (cp.changed e3 s3 ow hoo hro) ((s1.trans s2).fe.trans e3.fe) rv⟩
    · rw [ha, List.append_nil]
      exact ⟨rfl, rs⟩
    · have nd := cp.nd
      rw [List.map_append, List.nodup_append] at nd
      exact nd.1
/-- C(e, ..): a new instance -/
theorem st_make {α : Type} {args : α → Addr → List As} {Oi Oo : α × Addr × Addr → Om} {pre : α × Addr × Addr → Prop} {res : α × Addr × Addr → As} {t : TA} {Q : VK} (a : α) (c : Ctx Z F H σ Γ Ω) (h : EvA Γ Ω t Rs) (ha : ∀ x, args a x = Rf x :: Rs) (hoi : ∀ x dx, Oi (a, x, dx) = [(x, oI C dx [])]) (hp : ∀ x dx, pre (a, x, dx)) (hr : ∀ x dx F v, (res (a, x, dx)).p F v → v = .non)
    (hoo : ∀ x dx, (Oo (a, x, dx)).map (·.1) = [x]) (k : ∀ x dx F' H', Ctx Z F' H' σ Γ (Oo (a, x, dx) ++ Ω) → Same F F' → Q (.ref x) H') (hro : Z.ro = [] := by rfl) : tMake C (CtM (fun b : α × Addr × Addr => args b.1 b.2.1) Oi pre res Oo) [] E t σ H Q :=
  h Z F H σ c _ fun vs F1 H1 c1 s1 rs => by
    intro x dx hx hd hne
    have c2 := (c1.grow (p := dx) (o := .own x) (A := ⟨fun _ _ => True, fun _ h => h⟩) hd trivial).tail
    have hx2 : upd H1 dx (.own x) x = none := by rw [upd_ne (Ne.symm hne)]; exact hx
    have c3 := c2.grow (p := x) (o := .ins C dx []) (A := oI C dx []) hx2 ⟨[], rfl, trivial⟩
    have c3' : Ctx Z F1 (upd (upd H1 dx (.own x)) x (.ins C dx [])) σ Γ (Oi (a, x, dx) ++ Ω) := by rw [hoi]; exact c3
    refine ⟨(a, x, dx), F1, c3.sub, ?_, c3'.own.sub fun y hy => List.mem_append_left _ hy, by rw [hoi]; simp, hp x dx, fun v F3 H3 e3 s3 rv ow => ⟨hr x dx _ _ rv, ?_⟩⟩
    · dsimp only
      rw [ha, List.append_nil]
      exact ⟨rfl, rs⟩
    · exact k x dx F3 H3 (c3'.changed e3 s3 ow (by rw [hoo, hoi]; rfl) hro) (s1.fe.trans e3.fe)
end
end Y

namespace Y
open PySem L2 PySem.Spec
open PyProof.Rows (envOfC)
/-! ## methods of the text -/
structure Tm (K : PySem.W.Frag) (C : Addr) (m qual : Str) (st : Stmt) (ps : List Str) : Prop where
  ex : ∃ f fd, Fun K m qual st f fd ∧ Meth K C m f ∧ Binds K fd ps []
structure Dm (P : Program) (w : World) (K : PySem.W.Frag) (mg : Str → Option Value) (base : Heap) (k : Nat) (C : Addr) (m : Str) (ps : List Str) (sp : Sp) : Prop where
  ex : ∃ f fd, Meth K C m f ∧ Binds K fd ps [] ∧ FnOk P w K mg base (L2N.CX P w) k f fd ps sp
/-- __init__, with the defaults dvs that a call leaves out -/
structure Ti (K : PySem.W.Frag) (C : Addr) (qual : Str) (st : Stmt) (ps : List Str) (dvs : List V) : Prop where
  ex : ∃ f fd ds dall, Mk K C f ∧ FunD K "__init__" qual (defArgs st) (defBody st) (defScope st) dall [] f fd ∧ Vals dvs ds ∧ Binds K fd ps ds
structure Di (P : Program) (w : World) (K : PySem.W.Frag) (mg : Str → Option Value) (base : Heap) (k : Nat) (C : Addr) (ps : List Str) (dvs : List V) (sp : Sp) : Prop where
  ex : ∃ f fd ds, Mk K C f ∧ Vals dvs ds ∧ Binds K fd ps ds ∧ FnOk P w K mg base (L2N.CX P w) k f fd ps sp
/-- a class of the text -/
structure Tc (K : PySem.W.Frag) (mg : Str → Option Value) (C : Addr) (x : Str) : Prop where
  g : mg x = some (.ref C)
  cl : Cls K C
section
variable {P : Program} {w : World} {K : PySem.W.Frag} {mg : Str → Option Value} {base : Heap} {C : Addr} {m qual : Str} {st : Stmt} {N ps : List Str} {k : Nat} {sp : Sp} {dvs : List V}
theorem Tm.ok (T : Tm K C m qual st ps) (S : FnScope N ps (defScope st)) (len : ∀ vs H Q E, sp vs H Q E → vs.length = ps.length)
    (hbody : ∀ (f : Addr) (cdv : Value) (A : Around) (outer : List Env) (s : Shared) (H : Hp) (vs : List V) (Q : VK) (E : XK), Room k (A.deeper (envOfC qual (defScope st) s.heap.objs.size f cdv)) → sp vs H Q E →
      ∃ t, PSs (cxOf CX0 P w K mg base N qual (defScope st) f cdv A outer s H E).nox (defBody st) t ∧ t { nx := fun _ H' => Q .non H', rt := Q } (L2.start N vs) H) : Dm P w K mg base (k + 1) C m ps sp := by
  obtain ⟨f, fd, F, hm, b⟩ := T.ex
  exact ⟨f, fd, hm, b, FnOk_x (F.ok S len (hbody f))⟩
theorem Ti.ok (T : Ti K C qual st ps dvs) (S : FnScope N ps (defScope st)) (len : ∀ vs H Q E, sp vs H Q E → vs.length = ps.length)
    (hbody : ∀ (f : Addr) (cdv : Value) (A : Around) (outer : List Env) (s : Shared) (H : Hp) (vs : List V) (Q : VK) (E : XK), Room k (A.deeper (envOfC qual (defScope st) s.heap.objs.size f cdv)) → sp vs H Q E →
      ∃ t, PSs (cxOf CX0 P w K mg base N qual (defScope st) f cdv A outer s H E).nox (defBody st) t ∧ t { nx := fun _ H' => Q .non H', rt := Q } (L2.start N vs) H) : Di P w K mg base (k + 1) C ps dvs sp := by
  obtain ⟨f, fd, ds, dall, M, F, hv, b⟩ := T.ex
  refine ⟨f, fd, ds, M, hv, b, FnOk_x (F.ok (CX := CX0) S len fun cdv A outer s H vs Q E hr hsp => ?_)⟩
  obtain ⟨t, h, q⟩ := hbody f cdv A outer s H vs Q E hr hsp
  exact ⟨t, h.nox, q⟩
theorem tm_mk {f : Addr} {oc : Value} {od an : Option Addr} {osl : Array (Option Value)} {kV doc pm cdv ct : Value} (a : PySem.W.findIn K (.ref C) m = some (some (.ref f))) (i : PySem.W.isFn K (.ref f) = true)
    (l : K.lookup f = some ⟨oc, od, .func (PySem.W.fnOf m qual (defArgs st) (defBody st) (defScope st) .none kV doc pm an cdv ct), osl⟩) (c : PySem.W.codeIn K cdv qual = true) (kk : PySem.W.keepIn K (.ref f) = true)
    (hb : ∀ (kV doc pm : Value) (an : Option Addr) (cdv ct : Value) (us : List Value), us.length = ps.length → bindArgs (PySem.W.fnOf m qual (defArgs st) (defBody st) (defScope st) .none kV doc pm an cdv ct) ⟨us, []⟩ = pure (ps.zip us)) : Tm K C m qual st ps :=
  ⟨f, _, fun_mk l c kk, ⟨a, i, kk⟩, (fun_mk l c kk).binds hb⟩
theorem ti_mk {f : Addr} {oc : Value} {od an : Option Addr} {osl : Array (Option Value)} {kV doc pm cdv ct : Value} (a : PySem.W.findIn K (.ref C) "__init__" = some (some (.ref f))) (i : PySem.W.isFn K (.ref f) = true)
    (l : K.lookup f = some ⟨oc, od, .func (PySem.W.fnOf "__init__" qual (defArgs st) (defBody st) (defScope st) .none kV doc pm an cdv ct), osl⟩) (c : PySem.W.codeIn K cdv qual = true) (kk : PySem.W.keepIn K (.ref f) = true)
    (mk : PySem.W.makesIn K C = true) (kc : PySem.W.keepIn K (.ref C) = true)
    (hb : ∀ (kV doc pm : Value) (an : Option Addr) (cdv ct : Value) (us : List Value), us.length = ps.length → bindArgs (PySem.W.fnOf "__init__" qual (defArgs st) (defBody st) (defScope st) .none kV doc pm an cdv ct) ⟨us, []⟩ = pure (ps.zip us)) : Ti K C qual st ps [] :=
  ⟨f, _, [], [], ⟨mk, a, i, kc⟩, ⟨⟨oc, od, .none, kV, doc, pm, an, cdv, ct, osl, rfl, l, c, .inl ⟨rfl, rfl⟩, .inl rfl⟩, kk⟩, .nil, (fun_mk (st := st) l c kk).binds hb⟩
/-- .. with one default that is a number, left out -/
theorem ti_mk1 {f T : Addr} {d : Int} {tk : Tok} {o1 : Value} {o2 : Option Addr} {o4 : Array (Option Value)} {nn : Nat} {oc : Value} {od an : Option Addr} {osl : Array (Option Value)} {kV doc pm cdv ct : Value} {n : Nat} (a : PySem.W.findIn K (.ref C) "__init__" = some (some (.ref f))) (i : PySem.W.isFn K (.ref f) = true)
    (l : K.lookup f = some ⟨oc, od, .func (PySem.W.fnOf "__init__" qual (defArgs st) (defBody st) (defScope st) (.ref T) kV doc pm an cdv ct), osl⟩) (c : PySem.W.codeIn K cdv qual = true) (kk : PySem.W.keepIn K (.ref f) = true)
    (mk : PySem.W.makesIn K C = true) (kc : PySem.W.keepIn K (.ref C) = true) (lT : K.lookup T = some ⟨o1, o2, .seq #[.int d tk] nn, o4⟩) (hn : n + 1 = ps.length)
    (hb : ∀ (T : Addr) (kV doc pm : Value) (an : Option Addr) (cdv ct : Value) (us its : List Value), us.length = n → its.length = 1 →
      ∃ k, bindArgs (PySem.W.fnOf "__init__" qual (defArgs st) (defBody st) (defScope st) (.ref T) kV doc pm an cdv ct) ⟨us, []⟩ = seqItems? (.ref T) >>= k ∧ k (some its.toArray) = pure (ps.zip (us ++ its.drop 0))) : Ti K C qual st ps [.int d] := by
  have F : FunD K "__init__" qual (defArgs st) (defBody st) (defScope st) [.int d] [] f (PySem.W.fnOf "__init__" qual (defArgs st) (defBody st) (defScope st) (.ref T) kV doc pm an cdv ct) :=
    ⟨⟨oc, od, .ref T, kV, doc, pm, an, cdv, ct, osl, rfl, l, c, .inr ⟨(fun z => by cases z), T, _, [.int d tk], nn, rfl, lT, rfl, .cons ⟨tk, rfl⟩ .nil⟩, .inl rfl⟩, kk⟩
  obtain ⟨ds, hv, b⟩ := F.binds1 (ps := ps) n 0 (fun z => by cases z) hn hb
  exact ⟨f, _, ds, _, ⟨mk, a, i, kc⟩, F, hv, b⟩
section
variable {X : Cx} {C : Addr} {m x : Str} {ps : List Str} {sp : Sp} {k : Nat} {p pos apos : Pos} {e o : Expr} {es : List Expr} {t : TA} {ta : TE}
theorem pe_dm {pl : Sem Bool} (he : PE X o ta) (c : Cls X.K C) (D : Dm X.prog X.w X.K X.mg X.base k C m ps sp) (hr : Room k X.A) (ha : PA X (e :: es) t)
    (hst : starEach (e :: es) X.env = (false, eval e X.env) :: starEach es X.env := by rfl) (hpl : (backTo pos (starEach es X.env)).any (·.1) = false := by rfl)
    (ht : eval (.Call (.Attribute o m apos) (e :: es) [] pos) X.env = (do
      let ov ← eval o X.env
      standAt apos.atName
      let (f, first) ← holding [ov] (getMethod ov m pl)
      callWith pos f first (backTo pos (starEach (e :: es) X.env)) (backToKw pos (keywordEach [] X.env))) := by rfl) :
    PE X (.Call (.Attribute o m apos) (e :: es) [] pos) (tMeth C m sp [] E0 ta t) := by
  obtain ⟨f, fd, hm, b, G⟩ := D.ex
  exact pe_meth he c hm G hr b .nil passL ha hst hpl ht
theorem pe_dm0 {pl : Sem Bool} (he : PE X o ta) (c : Cls X.K C) (D : Dm X.prog X.w X.K X.mg X.base k C m ps sp) (hr : Room k X.A)
    (ht : eval (.Call (.Attribute o m apos) [] [] pos) X.env = (do
      let ov ← eval o X.env
      standAt apos.atName
      let (f, first) ← holding [ov] (getMethod ov m pl)
      callWith pos f first (backTo pos (starEach [] X.env)) (backToKw pos (keywordEach [] X.env))) := by rfl) :
    PE X (.Call (.Attribute o m apos) [] [] pos) (tMeth C m sp [] E0 ta tNil) := by
  obtain ⟨f, fd, hm, b, G⟩ := D.ex
  exact pe_meth0 he c hm G hr b .nil passL ht
theorem pe_di {dvs : List V} (D : Di X.prog X.w X.K X.mg X.base k C ps dvs sp) (hr : Room (k + 1) X.A) (hg : Gl X x) (hm : X.mg x = some (.ref C)) (ha : PA X (e :: es) t) (hdb : (x == ("__debug__" : Str)) = false := by decide)
    (he : starEach (e :: es) X.env = (false, eval e X.env) :: starEach es X.env := by rfl) (hpl : (backTo pos (starEach es X.env)).any (·.1) = false := by rfl) :
    PE X (.Call (.Name x p) (e :: es) [] pos) (tMake C sp dvs E0 t) := by
  obtain ⟨f, fd, ds, M, hv, b, G⟩ := D.ex
  exact pe_make M G hr hg hm b hv passL ha hdb he hpl
theorem pe_di0 {dvs : List V} (D : Di X.prog X.w X.K X.mg X.base k C ps dvs sp) (hr : Room (k + 1) X.A) (hg : Gl X x) (hm : X.mg x = some (.ref C)) (hdb : (x == ("__debug__" : Str)) = false := by decide) :
    PE X (.Call (.Name x p) [] [] pos) (tMake C sp dvs E0 tNil) := by
  obtain ⟨f, fd, ds, M, hv, b, G⟩ := D.ex
  exact pe_make0 M G hr hg hm b hv passL hdb
end
end
end Y

namespace Y
open PySem L2 PySem.Spec
open PyProof.Rows (envOfC)
/-! ## max(xs, default=d), xs a list of ints -/
theorem ints_hold {h : Heap} : ∀ {vs : List Value} {ns : List Int}, PyProof.Rows.IntsAre vs ns → ∃ as, ReadsAll h vs (ns.map PyData.int) as
  | _, _, .nil => ⟨[], .nil⟩
  | _, _, .cons _ _ r => by
    obtain ⟨as, e⟩ := ints_hold (h := h) r
    exact ⟨_, .cons (.int _ _) e⟩
def maxI (d : Int) : List Int → Int
  | [] => d
  | y :: ys => ys.foldl max y
theorem foldl_max (ys : List Int) : ∀ y : Int, ys.foldl (fun a y => if decide (a < y) = true then y else a) y = ys.foldl max y := by
  induction ys with
  | nil => intro y; rfl
  | cons x xs ih =>
    intro y
    rw [List.foldl_cons, List.foldl_cons, ih]
    congr 1
    by_cases h : y < x
    · rw [if_pos (by simpa using h)]; omega
    · rw [if_neg (by simpa using h)]; omega
theorem foldl_max_ge (ys : List Int) : ∀ y : Int, y ≤ ys.foldl max y ∧ ∀ z ∈ ys, z ≤ ys.foldl max y := by
  induction ys with
  | nil => intro y; exact ⟨Int.le_refl _, fun _ h => absurd h List.not_mem_nil⟩
  | cons x xs ih =>
    intro y
    rw [List.foldl_cons]
    obtain ⟨h1, h2⟩ := ih (max y x)
    refine ⟨by omega, fun z hz => ?_⟩
    rcases List.mem_cons.mp hz with e | e
    · subst e; omega
    · exact h2 z e
theorem foldl_max_mem (ys : List Int) : ∀ y : Int, ys.foldl max y ∈ y :: ys := by
  induction ys with
  | nil => intro y; exact List.mem_singleton.mpr rfl
  | cons x xs ih =>
    intro y
    rw [List.foldl_cons]
    rcases List.mem_cons.mp (ih (max y x)) with e | e
    · rw [e]
      by_cases h : y < x
      · rw [show max y x = x by omega]; exact List.mem_cons_of_mem _ List.mem_cons_self
      · rw [show max y x = y by omega]; exact List.mem_cons_self
    · exact List.mem_cons_of_mem _ (List.mem_cons_of_mem _ e)
theorem maxI_ge {d : Int} {ns : List Int} : ∀ z ∈ ns, z ≤ maxI d ns := by
  cases ns with
  | nil => exact fun _ h => absurd h List.not_mem_nil
  | cons y ys =>
    intro z hz
    obtain ⟨h1, h2⟩ := foldl_max_ge ys y
    rcases List.mem_cons.mp hz with e | e
    · rw [e]; exact h1
    · exact h2 z e
theorem maxI_mem {d : Int} {ns : List Int} (h : ns ≠ []) : maxI d ns ∈ ns := by
  cases ns with
  | nil => exact absurd rfl h
  | cons y ys => exact foldl_max_mem ys y
def rMaxDf (K : PySem.W.Frag) : List V → List V → Hp → VK → Prop := fun vs zs H Q => ∃ (a : Addr) (ns : List Int) (d : Int), vs = [V.ref a] ∧ zs = [V.int d] ∧ SqL K H a (ns.map V.int) ∧ Q (.int (maxI d ns)) H
theorem cr_maxDf {X : Cx} (hc : X.calm = true) (hu : X.A.units + 64 < cLine) : CallRK X (.builtin "max") [Str.ofString "default"] (rMaxDf X.K) := by
  intro pins s σ H vs zs us ws Q I r rz h
  obtain ⟨a, ns, d, rfl, rfl, hs, q⟩ := h
  obtain rfl := Vals.ref1 r
  obtain ⟨w1, rfl, ⟨t, rfl⟩⟩ := vals1 rz
  obtain ⟨its, rv, hl, _⟩ := I.list hs
  have hi := rv.ints
  obtain ⟨as, ra⟩ := ints_hold (h := s.heap) hi
  refine PySem.W.max_list_datum_default (α := Int) (xs := ns) (I.ok.hd hc) hl.isList ⟨as, ra⟩ (by show X.A.units + 1 + 0 < cLine; omega) (fun e h' tk hk => ?_) (fun y ys i v h' tk e _ hv hk => ?_)
  · subst e
    exact ⟨.int d, H, I.kept hk, ⟨t, rfl⟩, q⟩
  · subst e
    obtain ⟨bs, rd⟩ := hv
    obtain ⟨t', rfl⟩ : ∃ t', v = .int (PySem.W.maxOf y ys) t' := by
      cases rd
      exact ⟨_, rfl⟩
    refine ⟨.int (maxI d (y :: ys)), H, I.kept hk, ⟨t', ?_⟩, q⟩
    show Value.int _ _ = Value.int _ _
    congr 1
    exact foldl_max ys y
theorem ev_maxDf {Γ : Gm} {Ω : Om} {K : PySem.W.Frag} {ta tk : TA} {α : Type} {xs : List α} {g : α → Int} {d : Int} (ha : EvA Γ Ω ta [Ls K (xs.map fun x => I (g x))]) (hk : EvA Γ Ω tk [I d]) : Ev Γ Ω (tCKw (rMaxDf K) ta tk) (I (maxI d (xs.map g))) := fun Z F H σ c Q q => ha Z F H σ c _ fun vs F1 H1 c1 s1 r1 => hk Z F1 H1 σ c1 _ fun zs F2 H2 c2 s2 r2 => by
  obtain ⟨v, rfl, a, ys, e, hs, hl⟩ := r1.one
  obtain ⟨z, rfl, e2⟩ := r2.one
  cases e
  cases e2
  have w := all_map hl
  subst w
  exact ⟨a, xs.map g, d, rfl, rfl, c2.sub.seq (s2.fe.seq hs), q _ F2 H2 c2 (s1.trans s2) rfl⟩
end Y

namespace Y
open PySem L2 PySem.Spec
open PyProof.Rows (envOfC)
/-! ## what is handed out new and may be changed -/
/-- an expression whose value is a new thing, owned: A -/
def EvNw (Γ : Gm) (Ω : Om) (te : TE) (A : OA) : Prop := ∀ (Z : Bs) (F H : Hp) (σ : L2.St), Ctx Z F H σ Γ Ω → ∀ Q : VK, (∀ p F' H', Ctx Z F' H' σ Γ ((p, A) :: Ω) → Ext [] F H F' H' → H p = none → Q (.ref p) H') → te σ H Q
/-- a contract: it changes nothing and hands out a new thing, as post tells of it -/
def CtO {α β : Type} (args : α → List As) (pre : α → Prop) (post : α → β → Prop) (A : β → OA) : Sp := fun vs H Q _ =>
  ∃ a F, Same F H ∧ All F (args a) vs ∧ pre a ∧ ∀ b p F' H', post a b → Ext [] F H F' H' → Same F' H' → Own F' H' [(p, A b)] → H p = none → Q (.ref p) H'
theorem CtO.len {α β : Type} {args : α → List As} {pre : α → Prop} {post : α → β → Prop} {A : β → OA} {n : Nat} (h : ∀ a, (args a).length = n) : ∀ vs H Q E, CtO args pre post A vs H Q E → vs.length = n := by
  rintro vs H Q E ⟨a, F, _, ha, _⟩
  rw [ha.length, h]
section
variable {Z : Bs} {F H F' H' : Hp} {σ σ' : L2.St} {Γ Γ' : Gm} {Ω Ω' : Om} {K : PySem.W.Frag} {te ta tb tl : TE} {tt : TT} {R Rx Ry : As} {Rs Ss : List As} {n : L2.St → Hp → Prop} {r : VK} {bk ct : L2.St → Hp → Prop}
theorem Ctx.add {p : Addr} {A : OA} (c : Ctx Z F H σ Γ Ω) (e : Ext [] F H F' H') (s : Same F' H') (o : Own F' H' [(p, A)]) (hp : H p = none) : Ctx Z F' H' σ Γ ((p, A) :: Ω) := by
  have c2 := c.step e s
  refine ⟨c2.sat, s, fun x hx => ?_, ?_, fun x hx => ?_, c2.ext, c2.pin⟩
  · rcases List.mem_cons.mp hx with z | hx
    · subst z; exact o _ List.mem_cons_self
    · exact c2.own x hx
  · rw [List.map_cons, List.nodup_cons]
    refine ⟨fun hx => ?_, c.nd⟩
    obtain ⟨x, hx, z⟩ := List.mem_map.mp hx
    obtain ⟨_, o', h2, _⟩ := c.own x hx
    have z : x.1 = p := z
    rw [z, hp] at h2
    cases h2
  · rcases List.mem_cons.mp hx with z | hx
    · subst z; exact .inr (.inl (c.ext.dm _ hp))
    · exact c.loc x hx
/-- f(e, ..), f hands out something new -/
theorem eo_call {α β : Type} {args : α → List As} {pre : α → Prop} {post : α → β → Prop} {A : β → OA} {E : XK} {ta : TA} (a : α) (h : EvA Γ Ω ta (args a)) (hp : pre a) (Q : VK) (c : Ctx Z F H σ Γ Ω) (k : ∀ b p F' H', post a b → Ctx Z F' H' σ Γ ((p, A b) :: Ω) → Same F F' → Q (.ref p) H') : tCall (CtO args pre post A) [] E ta σ H Q :=
  h Z F H σ c _ fun vs F1 H1 c1 s1 rs => ⟨a, F1, c1.sub, by rw [List.append_nil]; exact rs, hp, fun b p F2 H2 hb e2 s2 o hn => k b p F2 H2 hb (c1.add e2 s2 o hn) (s1.trans e2).fe⟩
theorem st_callO {α β : Type} {args : α → List As} {pre : α → Prop} {post : α → β → Prop} {A : β → OA} {E : XK} {ta : TA} {i : Nat} (a : α) (c : Ctx Z F H σ Γ Ω) (h : EvA Γ Ω ta (args a)) (hp : pre a) (k : ∀ b p F' H' σ', post a b → Ctx Z F' H' σ' (Γ.set i (some (Rf p))) ((p, A b) :: Ω) → Same F F' → n σ' H') : tAsg (tCall (CtO args pre post A) [] E ta) (gName i) ⟨n, r, bk, ct⟩ σ H :=
  eo_call a h hp _ c fun b p F' H' hb c2 s => k b p F' H' _ hb (c2.set i rfl) s
/-- x = something new -/
theorem st_setO {A : OA} {i : Nat} (c : Ctx Z F H σ Γ Ω) (e : EvNw Γ Ω te A) (k : ∀ p F' H' σ', Ctx Z F' H' σ' (Γ.set i (some (Rf p))) ((p, A) :: Ω) → Same F F' → n σ' H') : tAsg te (gName i) ⟨n, r, bk, ct⟩ σ H :=
  e Z F H σ c _ fun p F' H' c2 s _ => k p F' H' _ (c2.set i rfl) s.fe
/-- return something new -/
theorem st_retO {A : OA} (c : Ctx Z F H σ Γ Ω) (e : EvNw Γ Ω te A) (k : ∀ p F' H', Ctx Z F' H' σ Γ ((p, A) :: Ω) → Same F F' → Z.H p = none → r (.ref p) H') : tRet te ⟨n, r, bk, ct⟩ σ H :=
  e Z F H σ c _ fun p F' H' c2 s h => k p F' H' c2 s.fe (c.ext.dm _ h)
/-- return x, x owned -/
theorem st_retOV {A : OA} {p : Addr} {j : Nat} (c : Ctx Z F H σ Γ Ω) (h : Ev Γ Ω te (Rf p)) (hm : Ω[j]? = some (p, A)) (hz : Z.ft = []) (k : ∀ F' H', Ctx Z F' H' σ Γ Ω → Own F' H' [(p, A)] → Z.H p = none → r (.ref p) H') (hro : Z.ro = [] := by rfl) : tRet te ⟨n, r, bk, ct⟩ σ H :=
  h Z F H σ c _ fun v F1 H1 c1 s1 rv => by
    cases rv
    refine k F1 H1 c1 (fun x hx => ?_) ?_
    · rw [List.mem_singleton.mp hx]; exact c1.own _ (List.mem_of_getElem? hm)
    · rcases c1.loc _ (List.mem_of_getElem? hm) with l | l | l
      · rw [hz] at l; exact absurd l List.not_mem_nil
      · exact l
      · rw [hro] at l; exact absurd l List.not_mem_nil
theorem own_head {p : Addr} {A : OA} (c : Ctx Z F H σ Γ ((p, A) :: Ω)) : Own F H [(p, A)] := fun x hx => by
  rw [List.mem_singleton.mp hx]; exact c.own _ List.mem_cons_self
/-- a comprehension's list, owned -/
theorem eo_lc {α : Type} {wi : TI} {xs : List α} {f : α → As} {g : TG} {vs : List Nat} (G' : α → Gm) (cd : α → Bool) (res : α → As) {ws : List Nat} (e : Src Γ Ω wi xs f) (hg : ∀ x, Gt (wipeG Γ vs) (f x) g (G' x) ws) (hw : ∀ i ∈ ws, i ∈ vs)
    (ht : ∀ x ∈ xs, EvT (G' x) Ω tt (cd x)) (he : ∀ x ∈ xs, cd x = true → Ev (G' x) Ω te (res x)) (hlen : xs.length ≤ 100000) : EvNw Γ Ω (tLc wi g tt te vs) (oL ((xs.filter cd).map res)) := fun Z F H σ c Q q =>
  e Z F H σ c _ fun J F1 H1 c1 s1 src => by
    intro D hD
    have cw : Ctx Z F1 H1 (L2.wipe σ vs) (wipeG Γ vs) Ω := c1.slots (c1.sat.wipe vs)
    let Pv : Nat → Hp → Prop := (fun k H' => ∃ F' acc, H' D = some (.lst acc) ∧ acc.length ≤ k ∧ All F' (((xs.take k).filter cd).map res) acc ∧ F' D = none ∧ ∃ G, Ctx Z F' G (L2.wipe σ vs) (wipeG Γ vs) Ω ∧ Ext [] F1 H1 F' G ∧ G D = none ∧ H' = upd G D (.lst acc))
    refine ⟨fun i m H => m = xs.length - i ∧ i ≤ xs.length ∧ Pv i H, ⟨_, rfl, Nat.zero_le _, F1, [], upd_same, Nat.zero_le _, trivial, c1.sub.free hD, H1, cw, Ext.refl _ _ _, hD, rfl⟩, ?_⟩
    rintro k m Hc ⟨rfl, hkn, pk⟩
    rcases Nat.lt_or_eq_of_le hkn with hk | hk
    · obtain ⟨F', acc, hA, hlA, hall, hFD, G, cG, eG, hGD, rfl⟩ := pk
      have hx : xs[k]? = some xs[k] := List.getElem?_eq_getElem hk
      have hmem : xs[k] ∈ xs := List.getElem_mem hk
      have cA0 : Ctx Z F' (upd G D (.lst acc)) (L2.wipe σ vs) (wipeG Γ vs) Ω := (cG.grow (A := ⟨fun _ _ => True, fun _ h => h⟩) (p := D) (o := .lst acc) hGD trivial).tail
      obtain ⟨go, yl⟩ := (src Z F' _ _ _ _ cA0 eG.fe).2 k xs[k] hx
      refine .inr ⟨go, Pv (k + 1), fun H' p' => ⟨xs.length - (k + 1), by omega, rfl, hk, p'⟩, fun y H' hy => ?_⟩
      obtain ⟨F0, e0, s0, ry⟩ := yl y H' hy
      -- the list that is being made, as something owned
      have cA : Ctx Z F0 H' (L2.wipe σ vs) (wipeG Γ vs) Ω := cA0.step e0 s0
      have pres : ∀ {F2 H2 : Hp}, Ext [] F' (upd G D (.lst acc)) F2 H2 → H2 D = some (.lst acc) := fun e2 => e2.fr D _ upd_same List.not_mem_nil
      have back : ∀ {F2 H2 : Hp} {σ2 : L2.St} {Γ2 : Gm}, Ctx Z F2 H2 σ2 Γ2 Ω → Ext [] F' (upd G D (.lst acc)) F2 H2 → F2 D = none ∧ ∃ G2, Ctx Z F2 G2 (L2.wipe σ vs) (wipeG Γ vs) Ω ∧ Ext [] F1 H1 F2 G2 ∧ G2 D = none ∧ ∀ o, upd H2 D o = upd G2 D o := fun {F2 H2 σ2 Γ2} c2 e2 => by
        have f2 : F2 D = none := e2.nw D (by rw [upd_same]; exact fun z => by cases z) hFD
        let G2 : Hp := fun b => if b = D then none else H2 b
        have g2 : ∀ b, b ≠ D → G2 b = H2 b := fun b hb => if_neg hb
        have gD : G2 D = none := if_pos rfl
        have hext : Ext [] F' G F2 G2 := by
          refine ⟨e2.fe, fun b o h hn => ?_, fun b h => ?_, fun b h1 h2 => ?_⟩
          · have hb : b ≠ D := ne_of_none h hGD
            rw [g2 b hb]
            exact e2.fr b o (by rw [upd_ne hb]; exact h) hn
          · by_cases hb : b = D
            · rw [hb]; exact hGD
            · rw [g2 b hb] at h
              have := e2.dm b h
              rw [upd_ne hb] at this
              exact this
          · have hb : b ≠ D := fun z => h1 (by rw [z]; exact hGD)
            exact e2.nw b (by rw [upd_ne hb]; exact h1) h2
        have hsub : Same F2 G2 := fun b o h => by
          have hb : b ≠ D := ne_of_none h f2
          rw [g2 b hb]
          exact c2.sub b o h
        refine ⟨f2, G2, cG.step hext hsub, eG.trans hext, gD, fun o => ?_⟩
        funext b
        unfold upd
        by_cases hb : b = D
        · rw [if_pos hb, if_pos hb]
        · rw [if_neg hb, if_neg hb, g2 b hb]
      refine hg xs[k] Z F0 _ (L2.wipe σ vs) y Ω cA ry _ fun σ2 c2 hσ => ⟨(hσ vs hw).trans ?_, ?_⟩
      · exact wipe_wipe σ vs
      refine ht xs[k] hmem Z F0 _ σ2 c2 _ fun F3 H3 c3 e3' => ?_
      have e3 := e0.trans e3'
      cases hc : cd xs[k] with
      | false =>
        refine iteF ?_
        obtain ⟨f3, G3, cG3, eG3, gD3, up3⟩ := back c3 e3
        refine ⟨F3, acc, pres e3, by omega, ?_, f3, G3, cG3, eG3, gD3, ?_⟩
        · rw [filter_take hx, hc, if_neg Bool.false_ne_true, List.append_nil]
          exact hall.mono e3.fe
        · have := up3 (.lst acc)
          rw [← this]
          funext b
          unfold upd
          by_cases hb : b = D
          · rw [if_pos hb, hb]; exact pres e3
          · rw [if_neg hb]
      | true =>
        refine iteT ?_
        refine he xs[k] hmem hc Z F3 H3 σ2 c3 _ fun w F4 H4 c4 e4 rw' => ?_
        have e34 := e3.trans e4
        obtain ⟨f4, G4, cG4, eG4, gD4, up4⟩ := back c4 e34
        refine ⟨acc, pres e34, Nat.lt_of_le_of_lt (Nat.le_trans hlA (Nat.le_of_lt (Nat.lt_of_lt_of_le hk hlen))) (by decide), F4, acc ++ [w], upd_same, by rw [List.length_append]; exact Nat.succ_le_succ hlA, ?_, f4, G4, cG4, eG4, gD4, up4 _⟩
        rw [filter_take hx, hc, if_pos rfl, List.map_append]
        exact (hall.mono e34.fe).app ⟨rw', trivial⟩
    · subst hk
      obtain ⟨F', acc, hA, _, hall, hFD, G, cG, eG, hGD, rfl⟩ := pk
      have cA0 : Ctx Z F' (upd G D (.lst acc)) (L2.wipe σ vs) (wipeG Γ vs) Ω := (cG.grow (A := ⟨fun _ _ => True, fun _ h => h⟩) (p := D) (o := .lst acc) hGD trivial).tail
      refine .inl ⟨(src Z F' _ _ _ _ cA0 eG.fe).1, ?_⟩
      rw [List.take_length] at hall
      exact q D F' _ (((c1.step eG cG.sub).grow (A := oL ((xs.filter cd).map res)) hGD ⟨acc, rfl, hall⟩)) (s1.trans (eG.trans (Ext.newH hGD))) (s1.dm _ (eG.dm _ hGD)) 
/-- list(x), owned -/
theorem eo_listLk {ta : TE} (ha : Lk K Γ Ω ta Rs) : EvNw Γ Ω (tCB (fun xs H Q => ∃ p ys, xs = [.ref p] ∧ (SqL K H p ys ∨ SqT K H p ys) ∧ ∀ l, H l = none → Q (.ref l) (upd H l (.lst ys))) (tCons ta tNil)) (oL Rs) := fun Z F H σ c Q q =>
  ha Z F H σ c _ fun a F1 H1 c1 s1 hs => by
    obtain ⟨xs, hs1, hl⟩ := hs F1 H1 c1 (Same.refl _)
    exact ⟨a, xs, rfl, .inl hs1, fun p hp => q p F1 _ (c1.grow (A := oL Rs) hp ⟨xs, rfl, hl⟩) (s1.trans (Ext.newH hp)) (s1.dm _ hp)⟩
/-- something new, frozen at once -/
theorem ev_ofNw (e : EvNw Γ Ω te (oL Rs)) : Ev Γ Ω te (Ls K Rs) := fun Z F H σ c Q q => e Z F H σ c _ fun p F' H' c2 s hn => by
  obtain ⟨h1, o, h2, xs, eo, hx⟩ := c2.own _ List.mem_cons_self
  subst eo
  dsimp only at h1 h2
  have s2 : Same F' (upd F' p (.lst xs)) := fun a u q => by rw [upd_ne (ne_of_none q h1)]; exact q
  have nd := c2.nd
  rw [List.map_cons, List.nodup_cons] at nd
  have other : ∀ x ∈ Ω, x.1 ≠ p := fun x hx z => nd.1 (List.mem_map.mpr ⟨x, hx, z⟩)
  have sub2 : Same (upd F' p (.lst xs)) H' := fun a u q => by
    by_cases z : a = p
    · rw [z] at q ⊢; rw [upd_same] at q; rw [← q]; exact h2
    · rw [upd_ne z] at q; exact c2.sub a u q
  have c3 : Ctx Z (upd F' p (.lst xs)) H' σ Γ Ω := by
    refine ⟨c2.sat.mono s2, sub2, fun x hx => ?_, nd.2, fun x hx => c2.loc x (List.mem_cons_of_mem _ hx), ⟨c2.ext.fe.trans s2, c2.ext.fr, c2.ext.dm, fun a g1 g2 => ?_⟩, c2.pin.trans s2⟩
    · obtain ⟨k1, o', k2, k3⟩ := c2.own x (List.mem_cons_of_mem _ hx)
      exact ⟨by rw [upd_ne (other x hx)]; exact k1, o', k2, x.2.mono s2 k3⟩
    · have z : a ≠ p := fun z => g1 (by rw [z]; exact c.ext.dm _ hn)
      rw [upd_ne z]
      exact c2.ext.nw a g1 g2
  refine q _ _ H' c3 ⟨s.fe.trans s2, s.fr, s.dm, fun a g1 g2 => ?_⟩ ⟨p, xs, rfl, SqL.of upd_same, hx.mono s2⟩
  have z : a ≠ p := fun z => g1 (by rw [z]; exact hn)
  rw [upd_ne z]
  exact s.nw a g1 g2
/-- f(e, ..), f hands out something new, one and the same kind: frozen at once -/
theorem nw_call {α β : Type} {args : α → List As} {pre : α → Prop} {post : α → β → Prop} {A : β → OA} {E : XK} {ta : TA} {B0 : OA} (a : α) (h : EvA Γ Ω ta (args a)) (hp : pre a) (hb : ∀ b, post a b → A b = B0) : EvNw Γ Ω (tCall (CtO args pre post A) [] E ta) B0 := fun Z F H σ c Q q =>
  h Z F H σ c _ fun vs F1 H1 c1 s1 rs => ⟨a, F1, c1.sub, by rw [List.append_nil]; exact rs, hp, fun b p F2 H2 hpb e2 s2 o hn => by
    have o' : Own F2 H2 [(p, B0)] := by rw [← hb b hpb]; exact o
    exact q p F2 H2 (c1.add e2 s2 o' hn) (s1.trans e2) (s1.dm _ hn)⟩
/-- f(e, ..), f reads things that are owned -/
theorem ev_callR {α : Type} {args : α → List As} {Oi : α → Om} {pre : α → Prop} {res : α → As} {E : XK} {t : TA} (a : α) (h : EvA Γ Ω t (args a)) (hs : (Oi a).Sublist Ω) (hp : pre a) : Ev Γ Ω (tCall (CtR args Oi pre res) [] E t) (res a) := fun Z F H σ c Q q =>
  h Z F H σ c _ fun vs F1 H1 c1 s1 rs => ⟨a, F1, c1.sub, by rw [List.append_nil]; exact rs, c1.own.sub fun x hx => hs.subset hx, nodup_sub c1.nd hs, hp, fun v F2 H2 e2 s2 r => q v F2 H2 (c1.step e2 s2) (s1.trans e2) r⟩
theorem all_mapB {F : Hp} {α : Type} {g : α → Bool} : ∀ {xs : List α} {ys : List V}, All F (xs.map fun x => B (g x)) ys → ys = (xs.map g).map V.bl
  | [], [], _ => rfl
  | x :: xs, y :: ys, h => by
    have e : y = V.bl (g x) := h.1
    rw [e, all_mapB h.2]
    rfl
  | [], _ :: _, h => h.elim
  | _ :: _, [], h => h.elim
theorem rc_any {α : Type} {xs : List α} {g : α → Bool} : RC (rAny K) [Ls K (xs.map fun x => B (g x))] (B (xs.any g)) := fun F H vs s h Q q => by
  obtain ⟨v, rfl, a, ys, e, hs, hl⟩ := h.one
  cases e
  have z := all_mapB hl
  subst z
  refine ⟨a, xs.map g, rfl, s.seq hs, ?_⟩
  rw [List.any_map]
  exact q _ F H (Ext.refl _ _ _) s rfl
theorem rc_all {α : Type} {xs : List α} {g : α → Bool} : RC (rAll K) [Ls K (xs.map fun x => B (g x))] (B (xs.all g)) := fun F H vs s h Q q => by
  obtain ⟨v, rfl, a, ys, e, hs, hl⟩ := h.one
  cases e
  have z := all_mapB hl
  subst z
  refine ⟨a, xs.map g, rfl, s.seq hs, ?_⟩
  rw [List.all_map]
  exact q _ F H (Ext.refl _ _ _) s rfl
/-- an owned list (variable i) read as a frozen one by an expression whose value is a number, a truth value, a text or None -/
theorem ev_peek {p : Addr} {i j : Nat} {w : V} (hm : Ω[j]? = some (p, oL Rs)) (hi : Γ[i]? = some (some (Rf p))) (h : Ev (Γ.set i (some (Ls K Rs))) (Ω.eraseIdx j) te (Cst w)) : Ev Γ Ω te (Cst w) := fun Z F H σ c Q q => by
  obtain ⟨h1, o, h2, xs, eo, hx⟩ := c.own _ (List.mem_of_getElem? hm)
  subst eo
  dsimp only at h1 h2
  have s : Same F (upd F p (.lst xs)) := fun a u z => by rw [upd_ne (ne_of_none z h1)]; exact z
  have hsub : Same (upd F p (.lst xs)) H := fun a u z => by
    by_cases e : a = p
    · rw [e] at z ⊢; rw [upd_same] at z; rw [← z]; exact h2
    · rw [upd_ne e] at z; exact c.sub a u z
  have other : ∀ x ∈ Ω.eraseIdx j, x ∈ Ω ∧ x.1 ≠ p := fun x hx => by
    have hx' := List.mem_of_mem_eraseIdx hx
    refine ⟨hx', fun z => ?_⟩
    obtain ⟨k, hk⟩ := List.getElem?_of_mem hx
    rw [List.getElem?_eraseIdx] at hk
    split at hk
    · have a1 : (Ω.map (·.1))[k]? = some p := by rw [List.getElem?_map, hk, ← z]; rfl
      have a2 : (Ω.map (·.1))[j]? = some p := by rw [List.getElem?_map, hm]; rfl
      have := nd_ix c.nd a1 a2
      omega
    · have a1 : (Ω.map (·.1))[k + 1]? = some p := by rw [List.getElem?_map, hk, ← z]; rfl
      have a2 : (Ω.map (·.1))[j]? = some p := by rw [List.getElem?_map, hm]; rfl
      have := nd_ix c.nd a1 a2
      omega
  have c1 : Ctx ⟨upd F p (.lst xs), H, [], upd F p (.lst xs), (Ω.eraseIdx j).map (·.1)⟩ (upd F p (.lst xs)) H σ (Γ.set i (some (Ls K Rs))) (Ω.eraseIdx j) := by
    refine ⟨?_, hsub, fun x hx => ?_, ((List.eraseIdx_sublist Ω j).map _).nodup c.nd, fun x hx => .inr (.inr (List.mem_map.mpr ⟨x, hx, rfl⟩)), Ext.refl _ _ _, Same.refl _⟩
    · obtain ⟨v, e1, e2⟩ := (c.sat.mono s).get hi
      have e2 : v = .ref p := e2
      subst e2
      have z := (c.sat.mono s).set (R := Ls K Rs) (v := .ref p) ⟨p, xs, rfl, SqL.of upd_same, hx.mono s⟩ i
      have e3 : σ.set i (some (.ref p)) = σ := by
        apply List.ext_getElem?
        intro k
        rw [List.getElem?_set]
        split
        · rename_i hk
          subst hk
          split
          · exact e1.symm
          · rename_i hk
            rw [List.getElem?_eq_none (by omega)]
        · rfl
      rw [e3] at z
      exact z
    · obtain ⟨hx1, hx2⟩ := other x hx
      obtain ⟨k1, o', k2, k3⟩ := c.own x hx1
      exact ⟨by rw [upd_ne hx2]; exact k1, o', k2, x.2.mono s k3⟩
  refine h _ _ _ σ c1 Q fun v F3 H3 c3 e3 rv => ?_
  have e : Ext [] F H (fun b => if b = p then none else F3 b) H3 := by
    refine ⟨fun a u z => ?_, e3.fr, e3.dm, fun a g1 g2 => ?_⟩
    · show (if a = p then none else F3 a) = some u
      rw [if_neg (ne_of_none z h1)]
      exact e3.fe a u (s a u z)
    · show (if a = p then none else F3 a) = none
      by_cases z : a = p
      · rw [if_pos z]
      · rw [if_neg z]
        exact e3.nw a g1 (by rw [upd_ne z]; exact g2)
  have s' : Same (fun b => if b = p then none else F3 b) H3 := fun a u z => by
    by_cases w : a = p
    · have z : (if a = p then none else F3 a) = some u := z
      rw [if_pos w] at z; cases z
    · have z : (if a = p then none else F3 a) = some u := z
      rw [if_neg w] at z; exact c3.sub a u z
  exact q v _ H3 (c.step e s') e rv
end
end Y

namespace Y
open PySem L2 PySem.Spec
open PyProof.Rows (envOfC)
/-! ## errors: with fields, out of methods, named in a suite -/
/-- an error's own dict -/
def oXd (fs : List (Str × As)) : OA := ⟨fun F o => ∃ vs, o = .xd vs ∧ AllF F fs vs, fun s h => by
  obtain ⟨vs, e, q⟩ := h; exact ⟨vs, e, q.mono s⟩⟩
/-- may raise C with fields -/
def CtX {α : Type} (args : α → List As) (pre good : α → Prop) (res : α → As) (C : Addr) (xf : α → List (Str × As)) : Sp := fun vs H Q E =>
  ∃ a F, Same F H ∧ All F (args a) vs ∧ pre a ∧ (good a → ∀ v F' H', Ext [] F H F' H' → Same F' H' → (res a).p F' v → Q v H') ∧
    (¬ good a → ∀ d F' H', Ext [] F H F' H' → Same F' H' → Own F' H' [(d, oXd (xf a))] → H d = none → E (.ref C) (some d) H')
/-- a method that changes, or raises C with fields and leaves all as it was -/
def CtMX {α : Type} (args : α → List As) (Oi : α → Om) (pre good : α → Prop) (res : α → As) (Oo : α → Om) (C : Addr) (xf : α → List (Str × As)) : Sp := fun vs H Q E =>
  ∃ a F, Same F H ∧ All F (args a) vs ∧ Own F H (Oi a) ∧ ((Oi a).map (·.1)).Nodup ∧ pre a ∧
    (good a → ∀ v F' H', Ext ((Oi a).map (·.1)) F H F' H' → Same F' H' → (res a).p F' v → Own F' H' (Oo a) → Q v H') ∧
    (¬ good a → ∀ d F' H', Ext ((Oi a).map (·.1)) F H F' H' → Same F' H' → Own F' H' ((d, oXd (xf a)) :: Oi a) → H d = none → E (.ref C) (some d) H')
/-- .. without fields -/
def CtME {α : Type} (args : α → List As) (Oi : α → Om) (pre good : α → Prop) (res : α → As) (Oo : α → Om) (C : Addr) : Sp := fun vs H Q E =>
  ∃ a F, Same F H ∧ All F (args a) vs ∧ Own F H (Oi a) ∧ ((Oi a).map (·.1)).Nodup ∧ pre a ∧
    (good a → ∀ v F' H', Ext ((Oi a).map (·.1)) F H F' H' → Same F' H' → (res a).p F' v → Own F' H' (Oo a) → Q v H') ∧
    (¬ good a → ∀ F' H', Ext ((Oi a).map (·.1)) F H F' H' → Same F' H' → Own F' H' (Oi a) → E (.ref C) none H')
section
variable {α : Type} {args : α → List As} {Oi Oo : α → Om} {pre good : α → Prop} {res : α → As} {C : Addr} {xf : α → List (Str × As)} {n : Nat}
theorem CtX.len (h : ∀ a, (args a).length = n) : ∀ vs H Q E, CtX args pre good res C xf vs H Q E → vs.length = n := by
  rintro vs H Q E ⟨a, F, _, ha, _⟩
  rw [ha.length, h]
theorem CtMX.len (h : ∀ a, (args a).length = n) : ∀ vs H Q E, CtMX args Oi pre good res Oo C xf vs H Q E → vs.length = n := by
  rintro vs H Q E ⟨a, F, _, ha, _⟩
  rw [ha.length, h]
theorem CtME.len (h : ∀ a, (args a).length = n) : ∀ vs H Q E, CtME args Oi pre good res Oo C vs H Q E → vs.length = n := by
  rintro vs H Q E ⟨a, F, _, ha, _⟩
  rw [ha.length, h]
end
/-! ### calls in a try (or in a def that lets the error out) -/
def tMethX (C : Addr) (m : Str) (sp : Sp) (E : L2.St → XK) (ta : TE) (t : TA) : TE := fun σ H Q => ta σ H fun x H1 => ∃ a dx fs, x = .ref a ∧ H1 a = some (.ins C dx fs) ∧ fs.lookup m = none ∧
  t σ H1 fun vs H2 => sp (x :: vs) H2 Q (E σ)
def tMakeX (C : Addr) (sp : Sp) (dvs : List V) (E : L2.St → XK) (t : TA) : TE := fun σ H Q => t σ H fun vs H1 => ∀ x dx, H1 x = none → H1 dx = none → dx ≠ x →
  sp (.ref x :: (vs ++ dvs)) (upd (upd H1 dx (.own x)) x (.ins C dx [])) (fun v H2 => v = .non ∧ Q (.ref x) H2) (E σ)
section
variable {X : Cx} {C : Addr} {m x : Str} {ps : List Str} {sp : Sp} {k : Nat} {p pos apos : Pos} {e o : Expr} {es : List Expr} {t : TA} {ta : TE} {W : WX}
theorem pe_dmS {pl : Sem Bool} (tk : Takes X W) (he : PE X o ta) (c : Cls X.K C) (D : Dm X.prog X.w X.K X.mg X.base k C m ps sp) (hr : Room k X.A) (ha : PA X (e :: es) t)
    (hst : starEach (e :: es) X.env = (false, eval e X.env) :: starEach es X.env := by rfl) (hpl : (backTo pos (starEach es X.env)).any (·.1) = false := by rfl)
    (ht : eval (.Call (.Attribute o m apos) (e :: es) [] pos) X.env = (do
      let ov ← eval o X.env
      standAt apos.atName
      let (f, first) ← holding [ov] (getMethod ov m pl)
      callWith pos f first (backTo pos (starEach (e :: es) X.env)) (backToKw pos (keywordEach [] X.env))) := by rfl) :
    PE X (.Call (.Attribute o m apos) (e :: es) [] pos) (tMethX C m sp (WE W) ta t) := by
  obtain ⟨f, fd, hm, b, G⟩ := D.ex
  refine ⟨fun pins s σ H Q I h => ?_⟩
  refine PySem.W.methodCall_KW (pl := pl) (thn (he.run pins s σ H _ I h) fun u s1 ⟨x, H1, I1, rx, a, dx, fs, ex, ea, l, q⟩ => ?_) ht
  subst ex
  obtain rfl : u = Value.ref a := rx
  refine getmeth_ok I1 ea c hm l ?_
  refine PySem.W.callWith_K (first := [.ref a]) (h₀ := X.base) I.ok.mod.kin hm.kp (thn (ha.run pos pins s1 σ H1 _ I1 q) fun us s2 ⟨vs, H2, I2, r, q2⟩ => ⟨I2.kIn, ?_⟩) hst hpl
  exact run_fnS (us := .ref a :: us) (vs := .ref a :: vs) G hr b (L2N.passAt tk σ) I2 (.cons rfl r) q2
theorem run_makeX {f : Addr} {fd : FuncData} {ds : List Value} {dvs : List V} {pins : List (Addr × Obj)} {σ : L2.St} {H : Hp} {s : Shared} {Q : VK} {us : List Value} {vs : List V} {E : XK} (M : Mk X.K C f) (F : FnOk X.prog X.w X.K X.mg X.base (L2N.CX X.prog X.w) k f fd ps sp) (hr : Room (k + 1) X.A) (hb : Binds X.K fd ps ds) (hd : Vals dvs ds)
    (hx : PassesAt (L2N.CX X.prog X.w) X σ E) (I : L2.Inv X pins σ H s) (r : Vals vs us)
    (h : ∀ x dx, H x = none → H dx = none → dx ≠ x → sp (.ref x :: (vs ++ dvs)) (upd (upd H dx (.own x)) x (.ins C dx [])) (fun v H2 => v = .non ∧ Q (.ref x) H2) E) :
    wpAny (model X.prog X.w) X.A (call (.ref C) us) (EP X pins σ Q) X.xe s := by
  have hq := h (s.heap.objs.size + 1) s.heap.objs.size (I.hok.fresh (Nat.le_succ _)) (I.hok.fresh (Nat.le_refl _)) (Nat.ne_of_lt (Nat.lt_succ_self _))
  have I2 := L2.Inv.made (C := C) I
  have r2 : Vals (V.ref (s.heap.objs.size + 1) :: (vs ++ dvs)) (Value.ref (s.heap.objs.size + 1) :: (us ++ ds)) := .cons rfl (r.append hd)
  have hl : (Value.ref (s.heap.objs.size + 1) :: us ++ ds).length = ps.length := by
    have e := r2.length
    rw [F.len _ _ _ _ hq] at e
    exact e.symm
  refine wpAny_call (make_map (f := f) I.kIn M.makes M.init (beq_iff_eq.mp M.fn) (codeAny_mono (F.run _ X.stack _ _ ⟨Value.ref (s.heap.objs.size + 1) :: us, []⟩ (Value.ref (s.heap.objs.size + 1) :: (us ++ ds)) _ _ E (hr.make C us [])
    (I2.env0.make C us []) (hb _ (Value.ref (s.heap.objs.size + 1) :: us) I2.kIn hl) r2 hq) fun r s' hq' => ?_))
  cases r with
  | error e => exact hx pins _ _ e s' I2 hq'
  | ok fl =>
    cases fl with
    | ret u =>
      obtain ⟨v, H', I3, rv, ev, q3⟩ := I2.after hq'
      subst ev
      exact ⟨rv, ⟨V.ref (s.heap.objs.size + 1), H', I3, rfl, q3⟩⟩
    | next => exact False.elim hq'
    | brk => exact False.elim hq'
    | cont => exact False.elim hq'
theorem pe_diS {dvs : List V} (tk : Takes X W) (D : Di X.prog X.w X.K X.mg X.base k C ps dvs sp) (hr : Room (k + 1) X.A) (hg : Gl X x) (hm : X.mg x = some (.ref C)) (ha : PA X (e :: es) t) (hdb : (x == ("__debug__" : Str)) = false := by decide)
    (he : starEach (e :: es) X.env = (false, eval e X.env) :: starEach es X.env := by rfl) (hpl : (backTo pos (starEach es X.env)).any (·.1) = false := by rfl) :
    PE X (.Call (.Name x p) (e :: es) [] pos) (tMakeX C sp dvs (WE W) t) := by
  obtain ⟨f, fd, ds, M, hv, b, G⟩ := D.ex
  refine ⟨fun pins s σ H Q I h => ?_⟩
  refine wpAny_Call_Name_kw (ld_glob I hg hm ?_ hdb)
  refine PySem.W.callWith_K (h₀ := X.base) I.ok.mod.kin M.kp (thn (ha.run pos pins s σ H _ I h) fun us s1 ⟨vs, H1, I1, r, q⟩ => ⟨I1.kIn, ?_⟩) he hpl
  exact run_makeX M G hr b hv (L2N.passAt tk σ) I1 r q
/-! ### raise -/
/-- X() -/
theorem pmk_ownZ {bmB : List Value} {B newId initId : String} (F : ExcBaseFacts B newId initId bmB) (q : PySem.W.excIn X.K C bmB newId = true) (gC : X.mg x = some (.ref C)) (kC : PySem.W.keepIn X.K (.ref C) = true) (r : Raises X (.ref C)) (hg : Gl X x)
    (hdb : (x == ("__debug__" : Str)) = false := by decide) : PMk X (.Call (.Name x p) [] [] pos) (fun _ H Q => Q (.ref C) none H) := by
  intro pins s σ H Q I h
  refine wpAny_Call_Name_kw (ld_glob I hg gC ?_ hdb)
  refine PySem.W.callWith_K0 I.kIn kC ?_
  show wpAny _ _ (call (.ref C) []) _ _ _
  obtain ⟨bm, N, nm, qn, bs, hdct, sn, sub, ab, col, dd, k0, k1, k2, k3, k5, mN, hC, hN, hni, T⟩ := exc_obj I.kIn q
  refine wpAny_call_exc_subT F T hC hN hni (fun h' e hm => ?_) (Nat.zero_le _)
  exact L2N.mk_of I hm r h (I.hok.gone hm.new)
end
/-- an error's class with its own __init__ -/
structure Te (K : PySem.W.Frag) (mg : Str → Option Value) (C : Addr) (x qual : Str) (st : Stmt) (ps : List Str) : Prop where
  ex : ∃ f fd, Fun K "__init__" qual st f fd ∧ PySem.W.findIn K (.ref C) "__init__" = some (some (.ref f)) ∧ PySem.W.typeIn K (.ref f) = some (.type "function") ∧ Binds K fd ps []
  g : mg x = some (.ref C)
  ox : OexC K C
structure De (P : Program) (w : World) (K : PySem.W.Frag) (mg : Str → Option Value) (base : Heap) (k : Nat) (C : Addr) (ps : List Str) (sp : Sp) : Prop where
  ex : ∃ f fd, PySem.W.findIn K (.ref C) "__init__" = some (some (.ref f)) ∧ PySem.W.typeIn K (.ref f) = some (.type "function") ∧ Binds K fd ps [] ∧ FnOk P w K mg base (L2N.CX P w) k f fd ps sp
section
variable {P : Program} {w : World} {K : PySem.W.Frag} {mg : Str → Option Value} {base : Heap} {C : Addr} {m x qual : Str} {st : Stmt} {N ps : List Str} {k : Nat} {sp : Sp} {dvs : List V}
theorem Te.ok (T : Te K mg C x qual st ps) (S : FnScope N ps (defScope st)) (len : ∀ vs H Q E, sp vs H Q E → vs.length = ps.length)
    (hbody : ∀ (f : Addr) (cdv : Value) (A : Around) (outer : List Env) (s : Shared) (H : Hp) (vs : List V) (Q : VK) (E : XK), Room k (A.deeper (envOfC qual (defScope st) s.heap.objs.size f cdv)) → sp vs H Q E →
      ∃ t, PSs (cxOf CX0 P w K mg base N qual (defScope st) f cdv A outer s H E).nox (defBody st) t ∧ t { nx := fun _ H' => Q .non H', rt := Q } (L2.start N vs) H) : De P w K mg base (k + 1) C ps sp := by
  obtain ⟨f, fd, F, hi, ht, b⟩ := T.ex
  exact ⟨f, fd, hi, ht, b, FnOk_x (F.ok S len (hbody f))⟩
theorem Tm.okX (T : Tm K C m qual st ps) (S : FnScope N ps (defScope st)) (len : ∀ vs H Q E, sp vs H Q E → vs.length = ps.length)
    (hbody : ∀ (f : Addr) (cdv : Value) (A : Around) (outer : List Env) (s : Shared) (H : Hp) (vs : List V) (Q : VK) (E : XK), Room k (A.deeper (envOfC qual (defScope st) s.heap.objs.size f cdv)) → sp vs H Q E →
      ∃ t, PSs (cxOf (L2N.CX P w) P w K mg base N qual (defScope st) f cdv A outer s H E) (defBody st) t ∧ t { nx := fun _ H' => Q .non H', rt := Q } (L2.start N vs) H) : Dm P w K mg base (k + 1) C m ps sp := by
  obtain ⟨f, fd, F, hm, b⟩ := T.ex
  exact ⟨f, fd, hm, b, fun_okN F S len (hbody f)⟩
theorem Ti.okX (T : Ti K C qual st ps dvs) (S : FnScope N ps (defScope st)) (len : ∀ vs H Q E, sp vs H Q E → vs.length = ps.length)
    (hbody : ∀ (f : Addr) (cdv : Value) (A : Around) (outer : List Env) (s : Shared) (H : Hp) (vs : List V) (Q : VK) (E : XK), Room k (A.deeper (envOfC qual (defScope st) s.heap.objs.size f cdv)) → sp vs H Q E →
      ∃ t, PSs (cxOf (L2N.CX P w) P w K mg base N qual (defScope st) f cdv A outer s H E) (defBody st) t ∧ t { nx := fun _ H' => Q .non H', rt := Q } (L2.start N vs) H) : Di P w K mg base (k + 1) C ps dvs sp := by
  obtain ⟨f, fd, ds, dall, M, F, hv, b⟩ := T.ex
  exact ⟨f, fd, ds, M, hv, b, F.ok (CX := L2N.CX P w) S len (hbody f)⟩
/-- __init__ with one default that is a number, which the call gives -/
theorem ti_mk1f {f T : Addr} {d : Int} {tk : Tok} {o1 : Value} {o2 : Option Addr} {o4 : Array (Option Value)} {nn : Nat} {oc : Value} {od an : Option Addr} {osl : Array (Option Value)} {kV doc pm cdv ct : Value} (a : PySem.W.findIn K (.ref C) "__init__" = some (some (.ref f))) (i : PySem.W.isFn K (.ref f) = true)
    (l : K.lookup f = some ⟨oc, od, .func (PySem.W.fnOf "__init__" qual (defArgs st) (defBody st) (defScope st) (.ref T) kV doc pm an cdv ct), osl⟩) (c : PySem.W.codeIn K cdv qual = true) (kk : PySem.W.keepIn K (.ref f) = true)
    (mk : PySem.W.makesIn K C = true) (kc : PySem.W.keepIn K (.ref C) = true) (lT : K.lookup T = some ⟨o1, o2, .seq #[.int d tk] nn, o4⟩)
    (hb : ∀ (T : Addr) (kV doc pm : Value) (an : Option Addr) (cdv ct : Value) (us its : List Value), us.length = ps.length → its.length = 1 →
      ∃ k, bindArgs (PySem.W.fnOf "__init__" qual (defArgs st) (defBody st) (defScope st) (.ref T) kV doc pm an cdv ct) ⟨us, []⟩ = seqItems? (.ref T) >>= k ∧ k (some its.toArray) = pure (ps.zip (us ++ its.drop 1))) : Ti K C qual st ps [] := by
  have F : FunD K "__init__" qual (defArgs st) (defBody st) (defScope st) [.int d] [] f (PySem.W.fnOf "__init__" qual (defArgs st) (defBody st) (defScope st) (.ref T) kV doc pm an cdv ct) :=
    ⟨⟨oc, od, .ref T, kV, doc, pm, an, cdv, ct, osl, rfl, l, c, .inr ⟨(fun z => by cases z), T, _, [.int d tk], nn, rfl, lT, rfl, .cons ⟨tk, rfl⟩ .nil⟩, .inl rfl⟩, kk⟩
  obtain ⟨ds, hv, b⟩ := F.binds1 (ps := ps) ps.length 1 (fun z => by cases z) rfl hb
  exact ⟨f, _, ds, _, ⟨mk, a, i, kc⟩, F, hv, b⟩
theorem te_mk {f : Addr} {oc : Value} {od an : Option Addr} {osl : Array (Option Value)} {kV doc pm cdv ct : Value} {h : Heap} (X : K.In h) (G : h.Ns mainGlobals mg) (g : PySem.W.nsIn K mainGlobals x = some (some (.ref C))) (ox : OexC K C) (a : PySem.W.findIn K (.ref C) "__init__" = some (some (.ref f))) (i : PySem.W.typeIn K (.ref f) = some (.type "function"))
    (l : K.lookup f = some ⟨oc, od, .func (PySem.W.fnOf "__init__" qual (defArgs st) (defBody st) (defScope st) .none kV doc pm an cdv ct), osl⟩) (c : PySem.W.codeIn K cdv qual = true) (kk : PySem.W.keepIn K (.ref f) = true)
    (hb : ∀ (kV doc pm : Value) (an : Option Addr) (cdv ct : Value) (us : List Value), us.length = ps.length → bindArgs (PySem.W.fnOf "__init__" qual (defArgs st) (defBody st) (defScope st) .none kV doc pm an cdv ct) ⟨us, []⟩ = pure (ps.zip us)) : Te K mg C x qual st ps :=
  ⟨⟨f, _, fun_mk l c kk, a, i, (fun_mk l c kk).binds hb⟩, PySem.W.mg_of X G g, ox⟩
end
section
variable {X : Cx} {C : Addr} {x qual : Str} {st : Stmt} {ps : List Str} {sp : Sp} {k : Nat} {p pos : Pos} {e : Expr} {es : List Expr} {ta : TA}
/-- C(e, ..), C an own class whose __init__ is walked: the context is None -/
theorem pmk_oexN {CX : CXT} {fI : Addr} {fd : FuncData} (T : OexC X.K C) (iC : PySem.W.findIn X.K (.ref C) "__init__" = some (some (.ref fI))) (tI : PySem.W.typeIn X.K (.ref fI) = some (.type "function"))
    (F1 : FnOk X.prog X.w X.K X.mg X.base CX k fI fd ps sp) (hr : Room (k + 1) X.A) (hb : Binds X.K fd ps []) (hx : Passes CX X (fun _ _ _ => False)) (hg : Gl X x) (hm : X.mg x = some (.ref C)) (ha : PA X (e :: es) ta)
    (hdb : (x == ("__debug__" : Str)) = false := by decide) (he : starEach (e :: es) X.env = (false, eval e X.env) :: starEach es X.env := by rfl) (hpl : (backTo pos (starEach es X.env)).any (·.1) = false := by rfl) :
    PMk X (.Call (.Name x p) (e :: es) [] pos) (tMkO C sp [] ta) := by
  intro pins s σ H Q I h
  obtain ⟨nm, q, N, bs, bm, sn, sub, ab, col, dd, k0, k1, k2, k3, k5, hC, hbm⟩ := T.cls
  refine wpAny_Call_Name_kw (ld_glob I hg hm ?_ hdb)
  refine PySem.W.callWith_K (h₀ := X.base) I.ok.mod.kin T.kC (thn (ha.run pos pins s σ H _ I h) fun us s1 ⟨vs, H1, I1, r1, hz, q1⟩ => ⟨I1.kIn, ?_⟩) he hpl
  show wpAny _ _ (call (.ref C) us) _ _ _
  obtain ⟨hp, g, dr, tk, os⟩ := s1
  have hsz : hp.objs.size ≤ hp.objs.size + 1 := Nat.le_succ _
  have hn : H1 (hp.objs.size + 1) = none := I1.hok.fresh hsz
  have hq := q1 (hp.objs.size + 1) hn
  rw [List.append_nil] at hq
  have kk : ∀ b o, hp.get? b = some o → ((hp.push (PySem.W.kdv_tup us)).push (PySem.HandSPX.excO C hp.objs.size)).get? b = some o := fun b o e => Heap.get?_push_of_some _ (Heap.get?_push_of_some _ e)
  have hget : ((hp.push (PySem.W.kdv_tup us)).push (PySem.HandSPX.excO C hp.objs.size)).get? (hp.objs.size + 1) = some (PySem.HandSPX.excO C hp.objs.size) := by heap_get
  have I2 := I1.laid (t' := tk) (a := hp.objs.size + 1) (o := exo (hp.objs.size + 1) C none) (h' := (hp.push (PySem.W.kdv_tup us)).push (PySem.HandSPX.excO C hp.objs.size)) kk hsz (exo_ok hget)
  have r2 : Vals (V.ref (hp.objs.size + 1) :: vs) (Value.ref (hp.objs.size + 1) :: us) := .cons rfl r1
  have hl : (Value.ref (hp.objs.size + 1) :: us ++ []).length = ps.length := by
    have e := r2.length
    rw [F1.len _ _ _ _ hq] at e
    rw [List.append_nil]
    exact e.symm
  have hus : us.length ≤ sizeLine := by
    rw [← PySem.Paired.length r1, sizeLine_eq]
    omega
  have b2 := hb _ (Value.ref (hp.objs.size + 1) :: us) I2.kIn hl
  rw [List.append_nil] at b2
  refine wpAny_call (PySem.HandSPX.call_own PySem.F.excBase_ValueError (fun Y => PySem.HandSPX.refsVE_contains Y bm hbm) (I1.kIn _ _ hC) (PySem.W.looks_findIn I1.kIn iC) (fun self => PySem.W.bind_fn I1.kIn self tI) hus
    (codeAny_mono (F1.run _ X.stack _ _ ⟨Value.ref (hp.objs.size + 1) :: us, []⟩ (Value.ref (hp.objs.size + 1) :: us) _ _ (fun _ _ _ => False) (hr.make C us []) (I2.env0.make C us []) b2 r2 hq) fun r s' hq' => ?_))
  cases r with
  | error er => exact hx pins σ _ _ er s' I2 hq'
  | ok fl =>
    cases fl with
    | ret u =>
      obtain ⟨v, H2, os2, bare2, un2, hok2, rv, ev, d, fs, ea, ed, hd1, q2⟩ := hq'
      subst ev
      obtain ⟨h2, g2, d2, t2, os'⟩ := s'
      obtain ⟨t0, G, J, kG, ge, hoe, na⟩ := mk_end0 (d2 := d2) (t2 := t2) I1 hsz kk un2 hok2 os2 bare2 ea ed hd1
      exact ⟨rv, ⟨hp.objs.size + 1, _, _, ⟨G, g2, d2, t2, os'⟩, _, .ref C, some d, rfl, J, kG, ge, hoe, ⟨rfl, rfl, fun vs hv => by cases hv; rfl⟩, rfl, rfl, na, rfl, bare2, raises_own T.exC T.tyC, q2⟩⟩
    | next => exact False.elim hq'
    | brk => exact False.elim hq'
    | cont => exact False.elim hq'
theorem pmk_de (T : Te X.K X.mg C x qual st ps) (D : De X.prog X.w X.K X.mg X.base k C ps sp) (hr : Room (k + 1) X.A) (hg : Gl X x) (ha : PA X (e :: es) ta)
    (hdb : (x == ("__debug__" : Str)) = false := by decide) (he : starEach (e :: es) X.env = (false, eval e X.env) :: starEach es X.env := by rfl) (hpl : (backTo pos (starEach es X.env)).any (·.1) = false := by rfl) :
    PMk X (.Call (.Name x p) (e :: es) [] pos) (tMkO C sp [] ta) := by
  obtain ⟨f, fd, hi, ht, b, G⟩ := D.ex
  refine pmk_oexN T.ox hi ht G hr b (fun pins σ H s e s' _ h => ?_) hg T.g ha hdb he hpl
  obtain ⟨_, _, _, _, _, _, _, _, _, _, _, _, z⟩ := h
  exact z.elim
end
/-- __init__(self, f): self.f = f -/
def spX1 (K : PySem.W.Frag) (C : Addr) (f : Str) : Sp := fun vs H Q _ => ∃ a v, vs = [.ref a, v] ∧ OexC K C ∧ PySem.W.findIn K (.ref C) f = some none ∧ H a = some (exo a C none) ∧ ∀ dx, H dx = none → dx ≠ a → Q .non (upd (upd H dx (exd dx [(f, v)])) a (exo a C (some dx)))
theorem spX1_len {K : PySem.W.Frag} {C : Addr} {f : Str} : ∀ vs H Q E, spX1 K C f vs H Q E → vs.length = 2 := by
  rintro vs H Q E ⟨a, v, rfl, _⟩; rfl
/-- __init__(self, f, g): self.f = f; self.g = g -/
def spX2 (K : PySem.W.Frag) (C : Addr) (f g : Str) : Sp := fun vs H Q _ => ∃ a v u, vs = [.ref a, v, u] ∧ OexC K C ∧ PySem.W.findIn K (.ref C) f = some none ∧ PySem.W.findIn K (.ref C) g = some none ∧ H a = some (exo a C none) ∧
  ∀ dx, H dx = none → dx ≠ a → Q .non (upd (upd (upd H dx (exd dx [(f, v)])) a (exo a C (some dx))) dx (exd dx [(g, u), (f, v)]))
theorem spX2_len {K : PySem.W.Frag} {C : Addr} {f g : Str} : ∀ vs H Q E, spX2 K C f g vs H Q E → vs.length = 3 := by
  rintro vs H Q E ⟨a, v, u, rfl, _⟩; rfl
section
variable {Z : Bs} {F H F' H' : Hp} {σ σ' : L2.St} {Γ Γ' : Gm} {Ω Ω' Ωr : Om} {K : PySem.W.Frag} {te ta tb tl : TE} {tt : TT} {R Rx Ry : As} {Rs Ss : List As} {n : L2.St → Hp → Prop} {r : VK} {bk ct : L2.St → Hp → Prop} {p C dx : Addr} {fs : List (Str × As)} {f g m : Str} {i j : Nat}
theorem x1_body {C : Addr} {f : Str} {vs : List V} {Q : VK} {E : XK} {D : Ends} (h : spX1 K C f vs H Q E) (hD : ∀ σ H', Q .non H' → D.nx σ H') : tOst K f (tVar 0) (tVar 1) D (L2.start ["self", f] vs) H := by
  obtain ⟨a, v, rfl, ox, hn, ha, hq⟩ := h
  exact ⟨v, rfl, .ref a, rfl, a, C, rfl, ox, hn, .inl ⟨ha, fun dx h1 h2 => hD _ _ (hq dx h1 h2)⟩⟩
theorem x2_body {C : Addr} {f g : Str} {vs : List V} {Q : VK} {E : XK} {D : Ends} (h : spX2 K C f g vs H Q E) (hD : ∀ σ H', Q .non H' → D.nx σ H') : tSeq (tOst K f (tVar 0) (tVar 1)) (tOst K g (tVar 0) (tVar 2)) D (L2.start ["self", f, g] vs) H := by
  obtain ⟨a, v, u, rfl, ox, hn, hn2, ha, hq⟩ := h
  refine ⟨v, rfl, .ref a, rfl, a, C, rfl, ox, hn, .inl ⟨ha, fun dx h1 h2 => ?_⟩⟩
  refine ⟨u, rfl, .ref a, rfl, a, C, rfl, ox, hn2, .inr ⟨dx, _, upd_same, ?_, (by show 1 ≤ 900; decide), hD _ _ (hq dx h1 h2)⟩⟩
  rw [upd_ne h2]; exact upd_same
theorem del_upd {H : Hp} {a d : Addr} {o1 o2 o3 : HO} {fs : List (Str × V)} (ha : H a = none) (hd : d ≠ a) : upd (del (upd (upd (upd H a o1) d o2) a o3) a) d (.xd fs) = upd H d (.xd fs) := by
  funext b
  by_cases e : b = d
  · subst e; rw [upd_same, upd_same]
  · rw [upd_ne e, upd_ne e]
    by_cases e2 : b = a
    · subst e2; rw [del_same, ha]
    · rw [del_ne e2, upd_ne e2, upd_ne e, upd_ne e2]
theorem del_upd2 {H : Hp} {a d : Addr} {o1 o2 o3 o4 : HO} {fs : List (Str × V)} (ha : H a = none) (hd : d ≠ a) : upd (del (upd (upd (upd (upd H a o1) d o2) a o3) d o4) a) d (.xd fs) = upd H d (.xd fs) := by
  funext b
  by_cases e : b = d
  · subst e; rw [upd_same, upd_same]
  · rw [upd_ne e, upd_ne e]
    by_cases e2 : b = a
    · subst e2; rw [del_same, ha]
    · rw [del_ne e2, upd_ne e, upd_ne e2, upd_ne e, upd_ne e2]
/-- X(e), made -/
theorem mk_x1 {ta : TA} {Q : XK} (c : Ctx Z F H σ Γ Ω) (ox : OexC K C) (hn : PySem.W.findIn K (.ref C) f = some none) (e : EvA Γ Ω ta [R]) (k : ∀ d F' H', Ctx Z F' H' σ Γ ((d, oXd [(f, R)]) :: Ω) → Same F F' → Z.H d = none → Q (.ref C) (some d) H') : tMkO C (spX1 K C f) [] ta σ H Q :=
  e Z F H σ c _ fun vs F1 H1 c1 s1 rs => by
    obtain ⟨v, rfl, rv⟩ := rs.one
    refine ⟨by show 1 ≤ 1000; decide, fun a ha => ⟨a, v, rfl, ox, hn, upd_same, fun d hd hne => ⟨rfl, d, [(f, v)], upd_same, by rw [upd_ne hne]; exact upd_same, ?_, ?_⟩⟩⟩
    · rw [upd_ne hne] at hd; exact hd
    · rw [upd_ne hne] at hd
      rw [del_upd ha hne]
      exact k d F1 _ (c1.grow (A := oXd [(f, R)]) hd ⟨_, rfl, rfl, rv, trivial⟩) s1.fe (c1.ext.dm _ hd)
/-- X(e, e'), made -/
theorem mk_x2 {ta : TA} {R2 : As} {Q : XK} (c : Ctx Z F H σ Γ Ω) (ox : OexC K C) (hn : PySem.W.findIn K (.ref C) f = some none) (hn2 : PySem.W.findIn K (.ref C) g = some none) (e : EvA Γ Ω ta [R, R2]) (k : ∀ d F' H', Ctx Z F' H' σ Γ ((d, oXd [(g, R2), (f, R)]) :: Ω) → Same F F' → Z.H d = none → Q (.ref C) (some d) H') : tMkO C (spX2 K C f g) [] ta σ H Q :=
  e Z F H σ c _ fun vs F1 H1 c1 s1 rs => by
    obtain ⟨v, u, rfl, rv, ru⟩ := rs.two
    refine ⟨by show 2 ≤ 1000; decide, fun a ha => ⟨a, v, u, rfl, ox, hn, hn2, upd_same, fun d hd hne => ⟨rfl, d, [(g, u), (f, v)], by rw [upd_ne (Ne.symm hne)]; exact upd_same, upd_same, ?_, ?_⟩⟩⟩
    · rw [upd_ne hne] at hd; exact hd
    · rw [upd_ne hne] at hd
      rw [del_upd2 ha hne]
      exact k d F1 _ (c1.grow (A := oXd [(g, R2), (f, R)]) hd ⟨_, rfl, rfl, ru, rfl, rv, trivial⟩) s1.fe (c1.ext.dm _ hd)
/-! ### readings of calls that may raise -/
theorem cl_E {α : Type} {args : α → List As} {pre good : α → Prop} {res : α → As} {W : L2.St → XK} {ta : TA} {Q : VK} (a : α) (c : Ctx Z F H σ Γ Ω) (h : EvA Γ Ω ta (args a)) (hp : pre a)
    (k1 : good a → ∀ v F' H', Ctx Z F' H' σ Γ Ω → Same F F' → (res a).p F' v → Q v H') (k2 : ¬ good a → ∀ F' H', Ctx Z F' H' σ Γ Ω → Same F F' → W σ (.ref C) none H') : tCallS (CtE args pre res good C) W ta σ H Q :=
  h Z F H σ c _ fun vs F1 H1 c1 s1 rs => ⟨a, F1, c1.sub, rs, hp, fun g v F2 H2 e2 s2 rv => k1 g v F2 H2 (c1.step e2 s2) (s1.fe.trans e2.fe) rv, fun g F2 H2 e2 s2 => k2 g F2 H2 (c1.step e2 s2) (s1.fe.trans e2.fe)⟩
theorem cl_X {α : Type} {args : α → List As} {pre good : α → Prop} {res : α → As} {xf : α → List (Str × As)} {W : L2.St → XK} {ta : TA} {Q : VK} (a : α) (c : Ctx Z F H σ Γ Ω) (h : EvA Γ Ω ta (args a)) (hp : pre a)
    (k1 : good a → ∀ v F' H', Ctx Z F' H' σ Γ Ω → Same F F' → (res a).p F' v → Q v H') (k2 : ¬ good a → ∀ d F' H', Ctx Z F' H' σ Γ ((d, oXd (xf a)) :: Ω) → Same F F' → W σ (.ref C) (some d) H') : tCallS (CtX args pre good res C xf) W ta σ H Q :=
  h Z F H σ c _ fun vs F1 H1 c1 s1 rs => ⟨a, F1, c1.sub, rs, hp, fun g v F2 H2 e2 s2 rv => k1 g v F2 H2 (c1.step e2 s2) (s1.fe.trans e2.fe) rv, fun g d F2 H2 e2 s2 o hd => k2 g d F2 H2 (c1.add e2 s2 o hd) (s1.fe.trans e2.fe)⟩
theorem ev_callX {α : Type} {args : α → List As} {pre good : α → Prop} {res : α → As} {xf : α → List (Str × As)} {E : XK} {ta : TA} (a : α) (h : EvA Γ Ω ta (args a)) (hp : pre a) (hg : good a) : Ev Γ Ω (tCall (CtX args pre good res C xf) [] E ta) (res a) := fun Z F H σ c Q q =>
  h Z F H σ c _ fun vs F1 H1 c1 s1 rs => ⟨a, F1, c1.sub, by rw [List.append_nil]; exact rs, hp, fun _ v F2 H2 e2 s2 r => q v F2 H2 (c1.step e2 s2) (s1.trans e2) r, fun n => absurd hg n⟩
theorem Ctx.plus {A : OA} (c : Ctx Z F H σ Γ Ω) (o : Own F H [(p, A)]) (hz : Z.H p = none) (hd : ∀ x, x ∈ Ω → x.1 ≠ p) : Ctx Z F H σ Γ ((p, A) :: Ω) := by
  refine ⟨c.sat, c.sub, fun x hx => ?_, ?_, fun x hx => ?_, c.ext, c.pin⟩
  · rcases List.mem_cons.mp hx with z | hx
    · subst z; exact o _ List.mem_cons_self
    · exact c.own x hx
  · rw [List.map_cons, List.nodup_cons]
    refine ⟨fun hx => ?_, c.nd⟩
    obtain ⟨x, hx, z⟩ := List.mem_map.mp hx
    exact hd x hx z
  · rcases List.mem_cons.mp hx with z | hx
    · subst z; exact .inr (.inl hz)
    · exact c.loc x hx
theorem cl_MX {α : Type} {args : α → List As} {Oi Oo : α → Om} {pre good : α → Prop} {res : α → As} {C' : Addr} {xf : α → List (Str × As)} {W : L2.St → XK} {t : TA} {Q : VK} (a : α) (c : Ctx Z F H σ Γ Ω) (ho : Ev Γ Ω ta (Rf p)) (hm : Ω[j]? = some (p, oI C dx fs)) (hn : fs.lookup m = none) (h : EvA Γ Ω t Rs) (ha : args a = Rf p :: Rs) (hs : Ω.Perm (Oi a ++ Ωr)) (hp : pre a)
    (hoo : (Oo a).map (·.1) = (Oi a).map (·.1)) (k1 : good a → ∀ v F' H', Ctx Z F' H' σ Γ (Oo a ++ Ωr) → Same F F' → (res a).p F' v → Q v H')
    (k2 : ¬ good a → ∀ d F' H', Ctx Z F' H' σ Γ ((d, oXd (xf a)) :: (Oi a ++ Ωr)) → Same F F' → W σ (.ref C') (some d) H') (hro : Z.ro = [] := by rfl) : tMethX C m (CtMX args Oi pre good res Oo C' xf) W ta t σ H Q :=
  ho Z F H σ c _ fun x F1 H1 c1 s1 rx => by
    cases rx
    obtain ⟨_, o, h2, vs, eo, hf⟩ := c1.own _ (List.mem_of_getElem? hm)
    subst eo
    refine ⟨p, dx, vs, rfl, h2, hf.none hn, h Z F1 H1 σ c1 _ fun ws F2 H2 c2 s2 rs => ?_⟩
    have cp := c2.perm hs
    refine ⟨a, F2, c2.sub, ?_, cp.own.sub fun x hx => List.mem_append_left _ hx, ?_, hp, fun g v F3 H3 e3 s3 rv ow => k1 g v F3 H3 (cp.changed e3 s3 ow hoo hro) ((s1.trans s2).fe.trans e3.fe) rv, fun g d F3 H3 e3 s3 ow hd => ?_⟩
    · rw [ha]
      exact ⟨rfl, rs⟩
    · have nd := cp.nd
      rw [List.map_append, List.nodup_append] at nd
      exact nd.1
    · have c3 := cp.changed e3 s3 (ow.sub fun x hx => List.mem_cons_of_mem _ hx) rfl hro
      refine k2 g d F3 H3 (c3.plus (fun x hx => ow x (by rw [List.mem_singleton.mp hx]; exact List.mem_cons_self)) (cp.ext.dm _ hd) fun x hx z => ?_) ((s1.trans s2).fe.trans e3.fe)
      obtain ⟨_, o', h3, _⟩ := cp.own x hx
      rw [z, hd] at h3
      cases h3
/-- a constructor that may raise, with the value dropped or kept -/
theorem cl_ME {α : Type} {args : α → Addr → List As} {Oi Oo : α × Addr × Addr → Om} {pre good : α × Addr × Addr → Prop} {res : α × Addr × Addr → As} {C' : Addr} {W : L2.St → XK} {t : TA} {Q : VK} {Ds : List As} {dvs : List V} (a : α) (c : Ctx Z F H σ Γ Ω) (h : EvA Γ Ω t Rs) (hd : ∀ F, All F Ds dvs) (ha : ∀ x, args a x = Rf x :: (Rs ++ Ds)) (hoi : ∀ x dx, Oi (a, x, dx) = [(x, oI C dx [])]) (hp : ∀ x dx, pre (a, x, dx)) (hr : ∀ x dx F v, (res (a, x, dx)).p F v → v = .non)
    (hoo : ∀ x dx, (Oo (a, x, dx)).map (·.1) = [x]) (k1 : ∀ x dx, good (a, x, dx) → ∀ F' H', Ctx Z F' H' σ Γ (Oo (a, x, dx) ++ Ω) → Same F F' → Q (.ref x) H') (k2 : ∀ x dx, ¬ good (a, x, dx) → ∀ F' H', Ctx Z F' H' σ Γ Ω → Same F F' → W σ (.ref C') none H') (hro : Z.ro = [] := by rfl) : tMakeX C (CtME (fun b : α × Addr × Addr => args b.1 b.2.1) Oi pre good res Oo C') dvs W t σ H Q :=
  h Z F H σ c _ fun vs F1 H1 c1 s1 rs => by
    intro x dx hx hd' hne
    have c2 := (c1.grow (p := dx) (o := .own x) (A := ⟨fun _ _ => True, fun _ h => h⟩) hd' trivial).tail
    have hx2 : upd H1 dx (.own x) x = none := by rw [upd_ne (Ne.symm hne)]; exact hx
    have c3 := c2.grow (p := x) (o := .ins C dx []) (A := oI C dx []) hx2 ⟨[], rfl, trivial⟩
    have c3' : Ctx Z F1 (upd (upd H1 dx (.own x)) x (.ins C dx [])) σ Γ (Oi (a, x, dx) ++ Ω) := by rw [hoi]; exact c3
    refine ⟨(a, x, dx), F1, c3.sub, ?_, c3'.own.sub fun y hy => List.mem_append_left _ hy, by rw [hoi]; simp, hp x dx, fun g v F3 H3 e3 s3 rv ow => ⟨hr x dx _ _ rv, ?_⟩, fun g F3 H3 e3 s3 ow => ?_⟩
    · dsimp only
      rw [ha]
      exact ⟨rfl, rs.app (hd F1)⟩
    · exact k1 x dx g F3 H3 (c3'.changed e3 s3 ow (by rw [hoo, hoi]; rfl) hro) (s1.fe.trans e3.fe)
    · have c4 := c3'.changed e3 s3 ow rfl hro
      rw [hoi] at c4
      exact k2 x dx g F3 H3 c4.tail (s1.fe.trans e3.fe)
/-- the same constructor where it does not raise, outside of any try -/
theorem st_makeE {α : Type} {args : α → Addr → List As} {Oi Oo : α × Addr × Addr → Om} {pre good : α × Addr × Addr → Prop} {res : α × Addr × Addr → As} {C' : Addr} {E : XK} {t : TA} {Ds : List As} {dvs : List V} (a : α) (c : Ctx Z F H σ Γ Ω) (h : EvA Γ Ω t Rs) (hd : ∀ F, All F Ds dvs) (ha : ∀ x, args a x = Rf x :: (Rs ++ Ds)) (hoi : ∀ x dx, Oi (a, x, dx) = [(x, oI C dx [])]) (hp : ∀ x dx, pre (a, x, dx)) (hg : ∀ x dx, good (a, x, dx)) (hr : ∀ x dx F v, (res (a, x, dx)).p F v → v = .non)
    (hoo : ∀ x dx, (Oo (a, x, dx)).map (·.1) = [x]) (k : ∀ x dx F' H' σ', Ctx Z F' H' σ' (Γ.set i (some (Rf x))) (Oo (a, x, dx) ++ Ω) → n σ' H') (hro : Z.ro = [] := by rfl) : tAsg (tMake C (CtME (fun b : α × Addr × Addr => args b.1 b.2.1) Oi pre good res Oo C') dvs E t) (gName i) ⟨n, r, bk, ct⟩ σ H :=
  h Z F H σ c _ fun vs F1 H1 c1 s1 rs => by
    intro x dx hx hd' hne
    have c2 := (c1.grow (p := dx) (o := .own x) (A := ⟨fun _ _ => True, fun _ h => h⟩) hd' trivial).tail
    have hx2 : upd H1 dx (.own x) x = none := by rw [upd_ne (Ne.symm hne)]; exact hx
    have c3 := c2.grow (p := x) (o := .ins C dx []) (A := oI C dx []) hx2 ⟨[], rfl, trivial⟩
    have c3' : Ctx Z F1 (upd (upd H1 dx (.own x)) x (.ins C dx [])) σ Γ (Oi (a, x, dx) ++ Ω) := by rw [hoi]; exact c3
    refine ⟨(a, x, dx), F1, c3.sub, ?_, c3'.own.sub fun y hy => List.mem_append_left _ hy, by rw [hoi]; simp, hp x dx, fun g v F3 H3 e3 s3 rv ow => ⟨hr x dx _ _ rv, ?_⟩, fun g => absurd (hg x dx) g⟩
    · dsimp only
      rw [ha]
      exact ⟨rfl, rs.app (hd F1)⟩
    · exact k x dx F3 H3 _ ((c3'.changed e3 s3 ow (by rw [hoo, hoi]; rfl) hro).set i rfl)
/-! ### suites -/
theorem w_only {cl cls : Value} {ts : Addr → Value → Option Addr → TS} {Wout : WX} {D : Ends} {d : Option Addr} (te : PySem.W.exmOne K cls cl = some true) (k : ∀ a0, H a0 = none → ts a0 cls d D σ H) : wOnly K cl ts Wout D cls d σ H := ⟨true, te, fun _ => k, fun z => Bool.noConfusion z⟩
theorem w_as {cl cls : Value} {ts : Addr → Value → Option Addr → TS} {Wout : WX} {D : Ends} {d : Option Addr} (te : PySem.W.exmOne K cls cl = some true)
    (k : ∀ a0, H a0 = none → ts a0 cls d { nx := fun σ' H' => D.nx (σ'.set i none) H', rt := D.rt, bk := fun σ' H' => D.bk (σ'.set i none) H', ct := fun σ' H' => D.ct (σ'.set i none) H' } (σ.set i (some (.ref a0))) H) : wAs K cl i ts Wout D cls d σ H := ⟨true, te, fun _ => k, fun z => Bool.noConfusion z⟩
theorem Ctx.clr (c : Ctx Z F H σ Γ Ω) (i : Nat) : Ctx Z F H (σ.set i none) (Γ.set i none) Ω := c.slots (c.sat.unset i)
/-- e.f, e the error that the suite holds -/
theorem ev_xf {a d : Addr} (ha : Ev Γ Ω ta (Rf a)) (hm : Ω[j]? = some (d, oXd fs)) (hl : fs.lookup f = some R) : Ev Γ Ω (tXf a (.ref C) (some d) C f ta) R := fun Z F H σ c Q q =>
  ha Z F H σ c _ fun x F1 H1 c1 s1 rx => by
    cases rx
    obtain ⟨_, o, h2, vs, e, hv⟩ := c1.own _ (List.mem_of_getElem? hm)
    subst e
    obtain ⟨v, e1, rv⟩ := hv.get hl
    exact ⟨rfl, rfl, d, vs, v, rfl, h2, e1, q v F1 H1 c1 s1 rv⟩
end
/-! ### isinstance of the error that a suite holds -/
end Y
namespace PySem.W
open PySem PySem.Spec PySem.Calls PyProof.Rows
section
variable {prog : Program} {w : World} {A : Around} {E : Value → Shared → Prop} {s : Shared} {K : Frag} {x D : Addr} {ox : Obj}
theorem findObj_dataD {C : Addr} {od : Option Obj} {name : Str} {a g : Value} (hc : (clsIn K C).isSome = true) (ha : findIn K (.ref C) name = some (some a)) (hg : specialIn K a "__get__" = some (some g)) (ht : takesIn K a = some true) : findObj K C od name = some (.bind g a) := by
  obtain ⟨cd, hc⟩ := Option.isSome_iff_exists.mp hc
  unfold findObj
  rw [hc, Option.bind_some, ha, Option.bind_some]
  simp [hg, ht]
theorem kin_classD {od : Option Obj} {Q : Option Value → Shared → Prop} (hga : findIn K (.ref D) "__getattribute__" = some (some (.builtin "BaseException.__getattribute__"))) (hgt : findIn K (.ref D) "__getattr__" = some none) (hsub : subIn K (.ref D) (.type "BaseException") = some true)
    (hdct : hasDictIn K D = true) (ha : findIn K (.ref D) "__class__" = some (some (.builtin "object.__class__")))
    (hn : specialIn K (.builtin "object.__class__") "__get__" = some (some (.builtin "getset_descriptor.__get__"))) (htk : takesIn K (.builtin "object.__class__") = some true) (hm : mroIn K D (.type "object") = some true)
    (X : K.In s.heap) (I : InstAt s.heap x ox D od) (h : Q (some (.ref D)) { s with toks := s.toks + 1 }) : wpAny (model prog w) A (getAttr? (.ref x) "__class__") Q E s := by
  have hf : findObj K D od "__class__" = some (.bind (.builtin "getset_descriptor.__get__") (.builtin "object.__class__")) := findObj_dataD (by obtain ⟨cd, hc, _⟩ := any_some hdct; rw [hc]; rfl) ha hn htk
  obtain ⟨hp, g, d, t, os⟩ := s
  have L0 := I.type (M := model prog w)
  have L1 := looks_findIn (M := model prog w) X hga
  have L2 := looks_findIn (M := model prog w) X hgt
  have L3 := looks_find (M := model prog w) X I hf
  have sub : Looks (model prog w) hp (isInstance (.ref x) (.type "BaseException")) true := L0.andThen (looks_subIn X hsub)
  have hx0 : (false && onTheHeap (Value.builtin "BaseException.__getattribute__")) = false := rfl
  have hx2 : (Value.builtin "BaseException.__getattribute__" == Value.builtin "object.__getattribute__") = false := by decide +kernel
  have hx1 : (onTheHeap (Value.ref D) && Value.builtin "BaseException.__getattribute__" == Value.builtin "object.__getattribute__") = false := by rw [hx2]; rfl
  unfold getAttr? getAttrBy? getAttrBy
  refine wpAny_bind (wpAny_mkText (wpAny_bind (wpAny_attempt (wpAny_holding (wpAny_bind (L0.at (wpAny_bind (L1.at ?_))))))))
  show wpAny _ _ (if (onTheHeap (Value.ref D) && Value.builtin "BaseException.__getattribute__" == Value.builtin "object.__getattribute__") = true then _ else _) _ _ _
  rw [hx1, if_neg Bool.false_ne_true]
  unfold getAttrByItsOwn hookBefore
  refine wpAny_bind ?_
  rw [if_pos (show onTheHeap (Value.ref D) = true from rfl)]
  refine L2.at ?_
  refine wpAny_bind (wpAny_attempt (wpAny_holding ?_))
  unfold callGetattribute
  rw [hx0, if_neg Bool.false_ne_true]
  unfold boundAndCalled
  rw [PySem.F.excAttr_ValueError.ga.bind (.ref x)]
  refine wpAny_bind (wpAny_pure ?_)
  show wpAny _ _ (call (.builtin "BaseException.__getattribute__") [.ref x, .str "__class__" t]) _ _ _
  refine wpAny_call (codeAny_call_builtin PySem.F.excAttr_ValueError.ga.plain PySem.F.entry_bexc_ga ?_)
  refine @check_slot (model prog w) _ _ ⟨hp, g, d, t + 1, os⟩ "BaseException.__getattribute__" "BaseException" "__getattribute__" (.ref x) [.str "__class__" t] [] _ (by decide +kernel) (by decide +kernel) sub (PySem.F.args_bexc_ga (.ref x) (.str "__class__" t)) ?_
  unfold Builtin.«object.__getattribute__»
  refine wpAny_bind (wpAny_of_eq (a := ((Value.ref x : Value), [Value.str "__class__" t])) (by first | rfl | (simp only [slotArgs]; rfl)) ?_)
  refine wpAny_bind (wpAny_pure (wpAny_bind (L0.at (wpAny_bind (L3.at ?_)))))
  show wpAny _ _ (holding [Value.builtin "object.__class__"] (call (.builtin "getset_descriptor.__get__") [.builtin "object.__class__", .ref x, .ref D]) >>= ret) _ _ _
  refine wpAny_bind (wpAny_holding (wpAny_call (class_get (s := ⟨hp, g, d, t + 1, os⟩) (ox := ox) (od := od) X I hm ?_)))
  refine wpAny_pure ?_
  show wpAny _ _ (handedOut (.ref D)) _ _ _
  rw [handedOut_of (v := .ref D) rfl]
  first
    | exact wpAny_pure (wpAny_pure h)
    | exact wpAny_pure h
    | exact wpAny_pure (wpAny_bind (wpAny_pure (wpAny_pure h)))
theorem kitx_excD {od : Option Obj} (hga : findIn K (.ref D) "__getattribute__" = some (some (.builtin "BaseException.__getattribute__"))) (hgt : findIn K (.ref D) "__getattr__" = some none) (hsub : subIn K (.ref D) (.type "BaseException") = some true) (hdct : hasDictIn K D = true) (ha : findIn K (.ref D) "__class__" = some (some (.builtin "object.__class__")))
    (hn : specialIn K (.builtin "object.__class__") "__get__" = some (some (.builtin "getset_descriptor.__get__"))) (htk : takesIn K (.builtin "object.__class__") = some true) (hm : mroIn K D (.type "object") = some true) :
    KitX K (.ref x) (.ref D) (fun h => InstAt h x ox D od) where
  ty := fun _ _ _ I => I.type
  it := fun _ _ X _ => by
    obtain ⟨cdD, hcD, _⟩ := any_some hdct
    unfold clsIn at hcD
    split at hcD
    · rename_i c' d' cd' sl' ho
      intro A' Q' E' s' k q
      unfold isType loadHead
      exact wpAny_bind (wpAny_loadPart (k _ _ (X _ _ ho)) (wpAny_pure q))
    · cases hcD
  ne := fun h tp dd its n sl X htp => by
    obtain ⟨cdD, hcD, _⟩ := any_some hdct
    refine Bool.eq_false_iff.mpr fun q => ?_
    have e : D = tp := Value.ref.inj (beq_iff_eq.mp q)
    subst e
    unfold clsIn at hcD
    split at hcD
    · rename_i c' d' cd' sl' ho
      have z := (X _ _ ho).symm.trans htp
      cases z
    · cases hcD
  ca := fun X I k => kin_classD hga hgt hsub hdct ha hn htk hm X I k
end
end PySem.W
namespace Y
open PySem L2 PySem.Spec
open PyProof.Rows (envOfC)
/-- what is known of the error: its class D; no dict, or a tracked one -/
def Kn (D : Addr) (cls : Value) (d : Option Addr) (H : Hp) : Prop := cls = .ref D ∧ (d = none ∨ ∃ dd fs, d = some dd ∧ H dd = some (.xd fs))
def rIsE1 (K : PySem.W.Frag) (D a : Addr) (cls : Value) (d : Option Addr) : List V → Hp → VK → Prop := fun xs H Q => ∃ (c : V) (cv : Value) (b : Bool), xs = [.ref a, c] ∧ Kn D cls d H ∧ (∀ u, RelV c u → u = cv) ∧ PySem.W.kitOne K (.ref D) cv = some b ∧ Q (.bl b) H
def rIsET (K : PySem.W.Frag) (D a : Addr) (cls : Value) (d : Option Addr) : List V → Hp → VK → Prop := fun xs H Q => ∃ (tp : Addr) (cs : List V) (ws : List Value) (b : Bool), xs = [.ref a, .ref tp] ∧ Kn D cls d H ∧ H tp = some (.tup cs) ∧ Paired ClsV cs ws ∧ PySem.W.kitAny K (.ref D) ws = some b ∧ Q (.bl b) H
section
variable {X : Cx} {a D : Addr} {cls : Value} {d : Option Addr} {oe : Obj} {pn : List (Addr × Obj)}
theorem kn_inst {pins : List (Addr × Obj)} {s : Shared} {σ : L2.St} {H : Hp} (hz : Zc cls d oe) (hf : ∃ vs, oe.data = .fields vs) (I : L2.Inv (X.suite a ((a, oe) :: pn)) pins σ H s) (h : Kn D cls d H) : ∃ od, PySem.W.InstAt s.heap a oe D od := by
  obtain ⟨ha, _⟩ := I.pin (a, oe) (List.mem_append_left _ List.mem_cons_self)
  obtain ⟨vs, hd⟩ := hf
  obtain ⟨ec, hh⟩ := h
  subst ec
  rcases hh with e | ⟨dd, fs, e, hx⟩
  · subst e
    exact ⟨none, ha, hz.1, by unfold PySem.W.notCls; rw [hd] <;> rfl, by rw [hz.2]; trivial⟩
  · subst e
    have hx : ObjOk X.prog X.w H s.heap dd (.xd fs) := I.hok dd _ hx
    obtain ⟨mA, hns, hr⟩ := hx
    obtain ⟨od, ho, hl⟩ := lookIn_ns hns
    exact ⟨some od, ha, hz.1, by unfold PySem.W.notCls; rw [hd] <;> rfl, by rw [hz.2]; exact ho⟩
theorem call_isE1 (C : ExcC X.K D) (hz : Zc cls d oe) (hf : ∃ vs, oe.data = .fields vs) : CallR (X.suite a ((a, oe) :: pn)) (.builtin "isinstance") (rIsE1 X.K D a cls d) := by
  intro pins s σ H xs us Q I r h
  obtain ⟨c, cv, b, rfl, kn, hcv, e, q⟩ := h
  obtain ⟨u1, u2, rfl, r1, r2⟩ := vals2 r
  cases (show u1 = Value.ref a from r1)
  have ec := hcv _ r2
  subst ec
  obtain ⟨od, J⟩ := kn_inst hz hf I kn
  exact PySem.W.kia_one (PySem.W.kitx_excD C.hg C.hk C.hs C.hd C.ha C.hn C.ht C.hm) I.kIn J e (fun z => nomatch z) fun tk => ⟨.bl b, H, I.kept (t' := tk) fun _ _ z => z, rfl, q⟩
theorem call_isET (C : ExcC X.K D) (hz : Zc cls d oe) (hf : ∃ vs, oe.data = .fields vs) : CallR (X.suite a ((a, oe) :: pn)) (.builtin "isinstance") (rIsET X.K D a cls d) := by
  intro pins s σ H xs us Q I r h
  obtain ⟨tp, cs, ws, b, rfl, kn, hT, k, e, q⟩ := h
  obtain ⟨u1, u2, rfl, r1, r2⟩ := vals2 r
  cases (show u1 = Value.ref a from r1)
  cases (show u2 = Value.ref tp from r2)
  obtain ⟨od, J⟩ := kn_inst hz hf I kn
  obtain ⟨_, its, rv, o, h1, h2, n, h3⟩ := (show ObjOk X.prog X.w H s.heap tp (.tup cs) from I.hok tp _ hT)
  have e3 := ClsV.all k rv
  subst e3
  obtain ⟨oc, od', dt, sl⟩ := o
  simp only at h2 h3
  subst h2 h3
  exact PySem.W.kia_tup (PySem.W.kitx_excD C.hg C.hk C.hs C.hd C.ha C.hn C.ht C.hm) I.kIn J h1 e (fun z => nomatch z) fun tk => ⟨.bl b, H, I.kept (t' := tk) fun _ _ z => z, rfl, q⟩
end
section
variable {Γ : Gm} {Ω : Om} {K : PySem.W.Frag} {te : TE} {ta : TA} {a D dd : Addr} {b : Bool} {fs : List (Str × As)} {j : Nat}
theorem all_cst {F : Hp} : ∀ {cs vs : List V}, All F (cs.map Cst) vs → vs = cs
  | [], [], _ => rfl
  | c :: cs, v :: vs, h => by
    have e : v = c := h.1
    rw [e, all_cst h.2]
  | [], _ :: _, h => h.elim
  | _ :: _, [], h => h.elim
theorem ev_isE {c : V} {cv : Value} {tc : TE} (he : Ev Γ Ω te (Rf a)) (h2 : Ev Γ Ω tc (Cst c)) (hc : ClsV c cv) (hk : PySem.W.kitOne K (.ref D) cv = some b) : Ev Γ Ω (tCB (rIsE1 K D a (.ref D) none) (tCons te (tCons tc tNil))) (B b) := fun Z F H σ c Q q =>
  he Z F H σ c _ fun x F1 H1 c1 s1 rx => h2 Z F1 H1 σ c1 _ fun y F2 H2 c2 s2 ry => by
    cases rx; cases ry
    exact ⟨_, _, b, rfl, ⟨rfl, .inl rfl⟩, fun u r => hc.eq r, hk, q _ F2 H2 c2 (s1.trans s2) rfl⟩
theorem ev_isED {c : V} {cv : Value} {tc : TE} (he : Ev Γ Ω te (Rf a)) (h2 : Ev Γ Ω tc (Cst c)) (hm : Ω[j]? = some (dd, oXd fs)) (hc : ClsV c cv) (hk : PySem.W.kitOne K (.ref D) cv = some b) : Ev Γ Ω (tCB (rIsE1 K D a (.ref D) (some dd)) (tCons te (tCons tc tNil))) (B b) := fun Z F H σ c Q q =>
  he Z F H σ c _ fun x F1 H1 c1 s1 rx => h2 Z F1 H1 σ c1 _ fun y F2 H2 c2 s2 ry => by
    cases rx; cases ry
    obtain ⟨_, o, h2, vs, e, hv⟩ := c2.own _ (List.mem_of_getElem? hm)
    subst e
    exact ⟨_, _, b, rfl, ⟨rfl, .inr ⟨dd, vs, rfl, h2⟩⟩, fun u r => hc.eq r, hk, q _ F2 H2 c2 (s1.trans s2) rfl⟩
theorem ev_isET {cs : List V} {ws : List Value} (he : Ev Γ Ω te (Rf a)) (h2 : EvA Γ Ω ta (cs.map Cst)) (hc : Paired ClsV cs ws) (hk : PySem.W.kitAny K (.ref D) ws = some b) (hl : cs.length ≤ 1000 := by decide) : Ev Γ Ω (tCB (rIsET K D a (.ref D) none) (tCons te (tCons (tTup ta) tNil))) (B b) := fun Z F H σ c Q q =>
  he Z F H σ c _ fun x F1 H1 c1 s1 rx => h2 Z F1 H1 σ c1 _ fun vs F2 H2 c2 s2 ry => by
    cases rx
    have ev := all_cst ry
    subst ev
    refine ⟨Nat.le_of_lt (small1000 hl), fun p hp => ?_⟩
    obtain ⟨e, s⟩ := Ext.new (o := .tup vs) c2.sub hp
    exact ⟨p, vs, ws, b, rfl, ⟨rfl, .inl rfl⟩, upd_same, hc, hk, q _ _ _ (c2.step e s) (s1.trans (s2.trans e)) rfl⟩
theorem ev_isETD {cs : List V} {ws : List Value} (he : Ev Γ Ω te (Rf a)) (h2 : EvA Γ Ω ta (cs.map Cst)) (hm : Ω[j]? = some (dd, oXd fs)) (hc : Paired ClsV cs ws) (hk : PySem.W.kitAny K (.ref D) ws = some b) (hl : cs.length ≤ 1000 := by decide) : Ev Γ Ω (tCB (rIsET K D a (.ref D) (some dd)) (tCons te (tCons (tTup ta) tNil))) (B b) := fun Z F H σ c Q q =>
  he Z F H σ c _ fun x F1 H1 c1 s1 rx => h2 Z F1 H1 σ c1 _ fun vs F2 H2 c2 s2 ry => by
    cases rx
    have ev := all_cst ry
    subst ev
    refine ⟨Nat.le_of_lt (small1000 hl), fun p hp => ?_⟩
    obtain ⟨e, s⟩ := Ext.new (o := .tup vs) c2.sub hp
    have c3 := c2.step e s
    obtain ⟨_, o, h2, us, e', hv⟩ := c3.own _ (List.mem_of_getElem? hm)
    subst e'
    exact ⟨p, vs, ws, b, rfl, ⟨rfl, .inr ⟨dd, us, rfl, h2⟩⟩, upd_same, hc, hk, q _ _ _ c3 (s1.trans (s2.trans e)) rfl⟩
/-- a tuple of three that takes none, .. -/
theorem kit2 {t c1 c2 : Value} (h1 : PySem.W.kitOne K t c1 = some false) (h2 : PySem.W.kitOne K t c2 = some false) : PySem.W.kitAny K t [c1, c2] = some false := kitAny_cons h1 (fun _ => kitAny_cons h2 (fun _ => rfl) (fun z => nomatch z)) (fun z => nomatch z)
theorem kit3 {t c1 c2 c3 : Value} (h1 : PySem.W.kitOne K t c1 = some false) (h2 : PySem.W.kitOne K t c2 = some false) (h3 : PySem.W.kitOne K t c3 = some false) : PySem.W.kitAny K t [c1, c2, c3] = some false := kitAny_cons h1 (fun _ => kit2 h2 h3) (fun z => nomatch z)
end
end Y
namespace Y
open PySem L2
section
variable {Z : Bs} {F H F' H' : Hp} {σ σ' : L2.St} {Γ Γ' : Gm} {Ω Ω' Ωr : Om} {K : PySem.W.Frag} {te ta tb tl : TE} {n : L2.St → Hp → Prop} {r : VK} {bk ct : L2.St → Hp → Prop} {i : Nat}
theorem dropX (h : te σ H (fun _ H' => n σ H')) : tDrop te ⟨n, r, bk, ct⟩ σ H := h
theorem asgX (h : te σ H (fun v H' => n (σ.set i (some v)) H')) : tAsg te (gName i) ⟨n, r, bk, ct⟩ σ H := h
theorem retX (h : te σ H r) : tRet te ⟨n, r, bk, ct⟩ σ H := h
/-- f(e, ..), a def that changes what it is handed -/
theorem cl_M {α : Type} {args : α → List As} {Oi Oo : α → Om} {pre : α → Prop} {res : α → As} {t : TA} {Q : VK} {E : XK} (a : α) (c : Ctx Z F H σ Γ Ω) (h : EvA Γ Ω t (args a)) (hs : Ω.Perm (Oi a ++ Ωr)) (hp : pre a)
    (hoo : (Oo a).map (·.1) = (Oi a).map (·.1)) (k : ∀ v F' H', Ctx Z F' H' σ Γ (Oo a ++ Ωr) → Same F F' → (res a).p F' v → Q v H') (hro : Z.ro = [] := by rfl) : tCall (CtM args Oi pre res Oo) [] E t σ H Q :=
  h Z F H σ c _ fun vs F1 H1 c1 s1 rs => by
    have cp := c1.perm hs
    refine ⟨a, F1, c1.sub, by rw [List.append_nil]; exact rs, cp.own.sub fun x hx => List.mem_append_left _ hx, ?_, hp, fun v F3 H3 e3 s3 rv ow => k v F3 H3 (cp.changed e3 s3 ow hoo hro) (s1.fe.trans e3.fe) rv⟩
    have nd := cp.nd
    rw [List.map_append, List.nodup_append] at nd
    exact nd.1
end
end Y
namespace Y
open PySem L2
section
variable {Z : Bs} {F H F' H' : Hp} {σ σ' : L2.St} {Γ Γ' : Gm} {Ω Ω' Ωr : Om} {K : PySem.W.Frag} {te ta tb tl : TE} {n : L2.St → Hp → Prop} {r : VK} {bk ct : L2.St → Hp → Prop}
theorem src_rp {ta : TA} {i j s : Int} {n : Nat} (e : EvA Γ Ω ta [I i, I j, I s]) (h : RgC i j s n) : Src Γ Ω (iRng3 ta) (List.range n) (fun k => I (i + (k : Int) * s)) := fun Z F H σ c R q => e Z F H σ c _ fun vs F1 H1 c1 s1 rv => by
  match vs, rv.length with
  | [v, w, u], _ =>
    obtain ⟨ev, ew, eu, _⟩ := rv
    cases ev; cases ew; cases eu
    refine ⟨i, j, s, n, rfl, h, q _ F1 H1 c1 s1 fun Z' F2 H2 σ2 Γ2 Ω2 c2 s2 => ?_⟩
    refine ⟨by rw [List.length_range]; exact Nat.le_refl _, fun k x hx => ?_⟩
    obtain ⟨hi, ei⟩ := List.getElem?_eq_some_iff.mp hx
    rw [List.length_range] at hi
    rw [List.getElem_range] at ei
    subst ei
    refine ⟨hi, fun v H3 hy => ?_⟩
    obtain ⟨e1, e2⟩ := hy
    subst e1 e2
    exact ⟨F2, Ext.refl _ _ _, c2.sub, rfl⟩
theorem rg3 : ∀ h : _root_.Fin 64, Builtin.Range.small 0 (h.val : Int) 3 = true ∧ Builtin.Range.rangeSize 0 (h.val : Int) 3 = (((h.val + 2) / 3 : Nat) : Int) := by decide +kernel
theorem gcd_turnA (x y : Int) : Int.gcd y (x % y) = Int.gcd x y := by
  rw [Int.emod_def, Int.gcd_comm x y]
  simp
theorem atI_three (a b c z : Int) : atI [I a, I b, I c] (z % 3) = some (I (if z % 3 = 0 then a else if z % 3 = 1 then b else c)) := by
  have h : z % 3 = 0 ∨ z % 3 = 1 ∨ z % 3 = 2 := by omega
  rcases h with h | h | h <;> rw [h] <;> rfl
theorem atI_four (a b c d z : Int) : atI [I a, I b, I c, I d] (z % 4) = some (I (if z % 4 = 0 then a else if z % 4 = 1 then b else if z % 4 = 2 then c else d)) := by
  have h : z % 4 = 0 ∨ z % 4 = 1 ∨ z % 4 = 2 ∨ z % 4 = 3 := by omega
  rcases h with h | h | h | h <;> rw [h] <;> rfl
end
end Y
namespace Y
open PySem L2
section
variable {Z : Bs} {F H F' H' : Hp} {σ σ' : L2.St} {Γ Γ' : Gm} {Ω Ω' Ωr : Om} {K : PySem.W.Frag} {te ta tb tl : TE} {n : L2.St → Hp → Prop} {r : VK} {bk ct : L2.St → Hp → Prop} {t1 t2 : TS}
/-- if not f(..): .., f a def that changes what it is handed and answers True -/
theorem st_ifNM {α : Type} {args : α → List As} {Oi Oo : α → Om} {pre : α → Prop} {res : α → As} {t : TA} {E : XK} (a : α) (c : Ctx Z F H σ Γ Ω) (h : EvA Γ Ω t (args a)) (hs : Ω.Perm (Oi a ++ Ωr)) (hp : pre a)
    (hoo : (Oo a).map (·.1) = (Oi a).map (·.1)) (hres : res a = B true) (k : ∀ F' H', Ctx Z F' H' σ Γ (Oo a ++ Ωr) → t2 ⟨n, r, bk, ct⟩ σ H') (hro : Z.ro = [] := by rfl) : tIfS (tNot (tB (tCall (CtM args Oi pre res Oo) [] E t))) t1 t2 ⟨n, r, bk, ct⟩ σ H :=
  cl_M a c h hs hp hoo (fun v F' H' c _ rv => ⟨true, (by rw [hres] at rv; exact rv), iteF (k F' H' c)⟩) hro
theorem ev_isNN (ha : Ev Γ Ω ta Nn) : Ev Γ Ω (tOp (fun x y H Q => y = .non ∧ Q (.bl (decide (x = .non))) H) ta (tC .non)) (B true) := ev_isNO (α := Unit) (R := fun _ => B true) (o := none) (fun _ => nev_c (fun z => nomatch z)) ha
theorem num_of {r : Rat} {t b : Int} (hb : b ≠ 0) (h : r * (b : Rat) = (t : Rat)) : r.num * b = t * r.den := by
  have hb' : (b : Rat) ≠ 0 := by exact_mod_cast hb
  have e : r = Rat.divInt t b := by
    rw [Rat.divInt_eq_div, ← h]
    grind
  have := r_cross (t := t) hb
  rw [← e] at this
  exact this
end
end Y
namespace Y
open PySem L2
section
variable {Z : Bs} {F H F' H' : Hp} {σ σ' : L2.St} {Γ Γ' : Gm} {Ω Ω' Ωr : Om} {K : PySem.W.Frag} {te ta ti tl : TE} {n : L2.St → Hp → Prop} {r : VK} {bk ct : L2.St → Hp → Prop} {R : As} {Rs : List As} {p : Addr} {j : Nat}
def rInsert : V → List V → Hp → VK → Prop := fun x vs H Q => ∃ (l : Addr) (xs : List V) (i : Int) (y : V), x = .ref l ∧ vs = [.int i, y] ∧ H l = some (.lst xs) ∧ xs.length < sizeLine ∧ 0 ≤ i ∧ i < 2 ^ 63 ∧
    Q .non (upd H l (.lst (xs.take i.toNat ++ [y] ++ xs.drop i.toNat)))
/-- x.insert(i, e), x owned -/
theorem st_ins {i : Int} (c : Ctx Z F H σ Γ Ω) (h : Ev Γ Ω ta (Rf p)) (hm : Ω[j]? = some (p, oL Rs)) (ei : Ev Γ Ω ti (I i)) (e : Ev Γ Ω te R) (hl : Rs.length ≤ 100000) (h0 : 0 ≤ i) (h1 : i < 2 ^ 63) (k : ∀ F' H', Ctx Z F' H' σ Γ (Ω.set j (p, oL (Rs.take i.toNat ++ [R] ++ Rs.drop i.toNat))) → n σ H') (hro : Z.ro = [] := by rfl) :
    tDrop (tBM K "list" rInsert ta (tCons ti (tCons te tNil))) ⟨n, r, bk, ct⟩ σ H :=
  h Z F H σ c _ fun v F1 H1 c1 s1 rv => by
    cases rv
    obtain ⟨_, o, h2, xs, eo, hx⟩ := c1.own _ (List.mem_of_getElem? hm)
    refine ⟨.inl ⟨rfl, _, SqL.of (by rw [h2, eo])⟩, ?_⟩
    refine ei Z F1 H1 σ c1 _ fun y F2 H2 c2 s2 ry => ?_
    cases ry
    refine e Z F2 H2 σ c2 _ fun y F3 H3 c3 s3 ry => ?_
    obtain ⟨_, o, h2, xs, eo, hx⟩ := c3.own _ (List.mem_of_getElem? hm)
    refine ⟨p, xs, i, y, rfl, rfl, by rw [h2, eo], ?_, h0, h1, ?_⟩
    · rw [hx.length]
      exact Nat.lt_of_le_of_lt hl (by decide)
    · have hone : All F3 [R] [y] := ⟨ry, trivial⟩
      exact k F3 _ (c3.chg hm ⟨_, rfl, ((hx.take _).app hone).app (hx.drop _)⟩ (c3.wr hm hro))
/-- x.clear(), x owned -/
theorem st_clear (c : Ctx Z F H σ Γ Ω) (h : Ev Γ Ω ta (Rf p)) (hm : Ω[j]? = some (p, oL Rs)) (k : ∀ F' H', Ctx Z F' H' σ Γ (Ω.set j (p, oL [])) → n σ H') (hro : Z.ro = [] := by rfl) :
    tDrop (tBM0 K "list" rClear ta) ⟨n, r, bk, ct⟩ σ H :=
  h Z F H σ c _ fun v F1 H1 c1 s1 rv => by
    cases rv
    obtain ⟨_, o, h2, xs, eo, hx⟩ := c1.own _ (List.mem_of_getElem? hm)
    exact ⟨.inl ⟨rfl, _, SqL.of (by rw [h2, eo])⟩, p, xs, rfl, rfl, by rw [h2, eo], k F1 _ (c1.chg hm ⟨_, rfl, trivial⟩ (c1.wr hm hro))⟩
theorem kd_l2 {α β : Type} {f : α → As} {d : α → PyData} {k : Nat} {g : β → As} {e : β → PyData} {m : Nat} (h : Kd K f d k) (h2 : Kd K g e m) : Kd K (fun p : α × β => Ls K [f p.1, g p.2]) (fun p => .list [d p.1, e p.2]) (max k m + 1) :=
  ⟨fun p => isd_lst ⟨h.is _, h2.is _, trivial⟩, fun p => gd_list fun d' hd => by
    rcases List.mem_cons.mp hd with z | hd
    · subst z; exact ⟨(h.gd _).1, Nat.le_trans (h.gd _).2 (Nat.le_max_left _ _)⟩
    · rcases List.mem_cons.mp hd with z | hd
      · subst z; exact ⟨(h2.gd _).1, Nat.le_trans (h2.gd _).2 (Nat.le_max_right _ _)⟩
      · exact absurd hd List.not_mem_nil, fun x y => by
    obtain ⟨a, b⟩ := x
    obtain ⟨a', b'⟩ := y
    have e1 := h.eq a a'
    have e2 := h2.eq b b'
    simp only [PyData.eqv, PyData.eqvAll, Bool.and_true, Prod.mk.injEq]
    rw [Bool.and_eq_true, e1, e2]⟩
end
end Y
namespace Y
open PySem L2
section
variable {Γ : Gm} {Ω : Om} {K : PySem.W.Frag} {te : TE}
theorem eo_lcA {α : Type} {wi : TI} {xs : List α} {f : α → As} {g : TG} {vs : List Nat} (G' : α → Gm) (res : α → As) {ws : List Nat} (e : Src Γ Ω wi xs f) (hg : ∀ x, Gt (wipeG Γ vs) (f x) g (G' x) ws) (hw : ∀ i ∈ ws, i ∈ vs)
    (he : ∀ x ∈ xs, Ev (G' x) Ω te (res x)) (hlen : xs.length ≤ 100000) : EvNw Γ Ω (tLc wi g tYes te vs) (oL (xs.map res)) := by
  have z := eo_lc (te := te) (tt := tYes) G' (fun _ => true) res e hg hw (fun _ _ => et_yes) (fun x hx _ => he x hx) hlen
  rw [List.filter_eq_self.mpr (fun _ _ => rfl)] at z
  exact z
end
end Y
namespace Y
open PySem L2
section
variable {Z : Bs} {F H F' H' : Hp} {σ σ' : L2.St} {Γ Γ' : Gm} {Ω Ω' Ωr : Om} {K : PySem.W.Frag} {te ta ti tl : TE} {tt : TT} {R : As} {Rs : List As} {p : Addr} {i j : Nat} {b : Bool}
theorem set_same {σ : L2.St} {v : V} (e1 : σ[i]? = some (some v)) : σ.set i (some v) = σ := by
  apply List.ext_getElem?
  intro k
  rw [List.getElem?_set]
  split
  · rename_i hk
    subst hk
    split
    · exact e1.symm
    · rename_i hk
      rw [List.getElem?_eq_none (by omega)]
  · rfl
/-- an owned list in a slot, frozen from here on -/
theorem Ctx.frzS (c : Ctx Z F H σ Γ Ω) (hi : Γ[i]? = some (some (Rf p))) (hm : Ω[j]? = some (p, oL Rs)) (hz : Z.ft = []) (hro : Z.ro = [] := by rfl) : ∃ F', Same F F' ∧ Ctx Z F' H σ (Γ.set i (some (Ls K Rs))) (Ω.eraseIdx j) := by
  obtain ⟨F', s, c', q⟩ := c.frz (K := K) hm rdL hz hro
  obtain ⟨v, e1, e2⟩ := c.sat.get hi
  have e2 : v = .ref p := e2
  subst e2
  have z := c'.set i q
  rw [set_same e1] at z
  exact ⟨F', s, z⟩
theorem et_peek (hm : Ω[j]? = some (p, oL Rs)) (hi : Γ[i]? = some (some (Rf p))) (h : EvT (Γ.set i (some (Ls K Rs))) (Ω.eraseIdx j) tt b) : EvT Γ Ω tt b := fun Z F H σ c Q q =>
  ev_peek (K := K) (te := fun σ H Q => tt σ H (fun b H' => Q (.bl b) H')) (w := .bl b) hm hi (fun Z F H σ c Q q => h Z F H σ c _ (fun F' H' c' e => q _ F' H' c' e rfl)) Z F H σ c (fun v H' => match v with | .bl b' => Q b' H' | _ => False) (fun v F' H' c' e rv => by
    cases rv
    exact q F' H' c' e)
end
end Y

namespace L2
open PySem PySem.Spec PyProof.Rows
/-! ## zip of three lists -/
def Itz3 (K : PySem.W.Frag) (a b c : Addr) : It :=
  ⟨fun i H => ∃ (xs ys us : List V) (x y u : V), SqL K H a xs ∧ SqL K H b ys ∧ SqL K H c us ∧ xs[i]? = some x ∧ ys[i]? = some y ∧ us[i]? = some u,
    fun i H v H' => ∃ T x y u, v = .ref T ∧ H T = none ∧ H' = upd H T (.tup [x, y, u]) ∧ (∀ xs, SqL K H a xs → xs[i]? = some x) ∧ (∀ ys, SqL K H b ys → ys[i]? = some y) ∧ ∀ us, SqL K H c us → us[i]? = some u,
    fun i H => ∃ xs ys us : List V, SqL K H a xs ∧ SqL K H b ys ∧ SqL K H c us ∧ i = min (min xs.length ys.length) us.length⟩
theorem turn_zip3 {P : Program} {w : World} {K : PySem.W.Frag} {elts : List Expr} {kk : Nat} {tpos : Pos} {a b c z TI TO i1 i2 i3 : Addr} (S : ZipSep3 z TI TO i1 i2 i3 [i1, a] [i2, b] [i3, c]) :
    Turn P w K (.Tuple elts kk tpos) (Itz3 K a b c) [z, TI, TO, i1, i2, i3] z (fun i h => IsZip h z TI TO .none ∧ IsTupOf3 h TI (.ref i1) (.ref i2) (.ref i3) ∧ (∃ x y u, IsTupOf3 h TO x y u) ∧ h.IsListIter i1 a i ∧ h.IsListIter i2 b i ∧ h.IsListIter i3 c i) where
  mem := by simp
  obj := fun i h st d hd => by
    obtain ⟨hz, hTI, ⟨x, y, u, hTO⟩, ⟨o1, e1, _, d1⟩, ⟨o2, e2, _, d2⟩, ⟨o3, e3, _, d3⟩⟩ := st
    have e' : d = z ∨ d = TI ∨ d = TO ∨ d = i1 ∨ d = i2 ∨ d = i3 := by simpa using hd
    rcases e' with q | q | q | q | q | q
    · rw [q]; exact ⟨_, hz, fun v q => nomatch q⟩
    · rw [q]; exact ⟨_, hTI, fun v q => nomatch q⟩
    · rw [q]; exact ⟨_, hTO, fun v q => nomatch q⟩
    · rw [q]; exact ⟨o1, e1, fun v q => by rw [d1] at q; cases q⟩
    · rw [q]; exact ⟨o2, e2, fun v q => by rw [d2] at q; cases q⟩
    · rw [q]; exact ⟨o3, e3, fun v q => by rw [d3] at q; cases q⟩
  keep := fun i h h' st k => by
    obtain ⟨hz, hTI, ⟨x, y, u, hTO⟩, h1, h2, h3⟩ := st
    exact ⟨k z (by simp) _ hz, k TI (by simp) _ hTI, ⟨x, y, u, k TO (by simp) _ hTO⟩, h1.at fun o q => k i1 (by simp) o q, h2.at fun o q => k i2 (by simp) o q, h3.at fun o q => k i3 (by simp) o q⟩
  item := by
    intro X hP hw hK hc i pins s σ H E I hf st hg
    subst hP hw hK
    obtain ⟨hz, hTI, ⟨x0, y0, u0, hTO⟩, h1, h2, h3⟩ := st
    obtain ⟨xs, ys, us, x, y, u, hqx, hqy, hqu, hx, hy, hu⟩ := hg
    obtain ⟨its, rv, p, _⟩ := I.list hqx
    obtain ⟨its2, rv2, p2, _⟩ := I.list hqy
    obtain ⟨its3, rv3, p3, _⟩ := I.list hqu
    obtain ⟨v1, hv1, ru1⟩ := rv.get hx
    obtain ⟨v2, hv2, ru2⟩ := rv2.get hy
    obtain ⟨v3, hv3, ru3⟩ := rv3.get hu
    have hh : X.A.in1.handled = none := I.ok.hd hc
    have apart : ∀ {l it : Addr} {items : Array Value} {j : Nat}, s.heap.IsList l items → s.heap.IsListIter it l j → l ≠ it := fun hl hi e => by
      obtain ⟨o, e1, c1, _⟩ := hl
      obtain ⟨o2, e2, c2, _⟩ := hi
      rw [e, e2] at e1
      cases e1
      rw [c1] at c2
      exact absurd (Value.type.inj c2) (by decide)
    have n1 := apart p.isList h1
    have n2 := apart p2.isList h2
    have n3 := apart p3.isList h3
    have W := GoesN.zip3 (prog := X.prog) (w := X.w) (A := X.A) (elts := elts) (x1 := kk) (pos := tpos) S (Draws.list hh i1 a n1 its.toArray) (Draws.list hh i2 b n2 its2.toArray) (Draws.list hh i3 c n3 its3.toArray)
    have hi : i < min (min its.toArray.size its2.toArray.size) its3.toArray.size := by
      have := (List.getElem?_eq_some_iff.mp hv1).1
      have := (List.getElem?_eq_some_iff.mp hv2).1
      have := (List.getElem?_eq_some_iff.mp hv3).1
      simp
      omega
    refine W.goes i s _ _ hi ⟨hz, hTI, ⟨x0, y0, u0, hTO⟩, ⟨h1, p.isList⟩, ⟨h2, p2.isList⟩, ⟨h3, p3.isList⟩⟩ (fun v h' tk hY st' hk htk => ?_)
    obtain ⟨T, w1, w2, w3, ev, hT, e1, e2, e3, hTt⟩ := hY
    subst ev
    obtain ⟨z', TI', TO', ⟨h1', _⟩, ⟨h2', _⟩, ⟨h3', _⟩⟩ := st'
    have f1 : v1 = w1 := by
      have e : its.toArray[i]? = some v1 := by simpa using hv1
      rw [e] at e1; exact Option.some.inj e1
    have f2 : v2 = w2 := by
      have e : its2.toArray[i]? = some v2 := by simpa using hv2
      rw [e] at e2; exact Option.some.inj e2
    have f3 : v3 = w3 := by
      have e : its3.toArray[i]? = some v3 := by simpa using hv3
      rw [e] at e3; exact Option.some.inj e3
    subst f1 f2 f3
    have new : ObjOk X.prog X.w (upd H T (.tup [x, y, u])) h' T (.tup [x, y, u]) := by
      obtain ⟨o, ho, hcl, n, hd⟩ := hTt
      exact ⟨by show 3 ≤ sizeLine; decide, [v1, v2, v3], .cons ru1 (.cons ru2 (.cons ru3 .nil)), ⟨o, ho, hcl, n, hd⟩⟩
    have I1 : Inv X pins σ (upd H T (.tup [x, y, u])) { s with heap := h', toks := tk } :=
      I.turnedNew (t' := tk) (ch := [z, TO, i1, i2, i3]) hk (fun d hd => hf d (by simp at hd ⊢; rcases hd with q | q | q | q | q <;> simp [q])) hT new
    refine ⟨.ref T, _, I1, rfl, ⟨T, x, y, u, rfl, I.hok.fresh hT, rfl, fun l hl => by rw [I.list_inj hl hqx]; exact hx, fun l hl => by rw [I.list_inj hl hqy]; exact hy, fun l hl => by rw [I.list_inj hl hqu]; exact hu⟩, ⟨z', TI', TO', h1', h2', h3'⟩, fun d hd => ?_⟩
    have hlt : d < s.heap.objs.size := by
      have e' : d = z ∨ d = TI ∨ d = TO ∨ d = i1 ∨ d = i2 ∨ d = i3 := by simpa using hd
      rcases e' with q | q | q | q | q | q
      · rw [q]; exact Heap.lt_size hz
      · rw [q]; exact Heap.lt_size hTI
      · rw [q]; exact Heap.lt_size hTO
      · rw [q]; obtain ⟨_, e1, _⟩ := h1; exact Heap.lt_size e1
      · rw [q]; obtain ⟨_, e2, _⟩ := h2; exact Heap.lt_size e2
      · rw [q]; obtain ⟨_, e3, _⟩ := h3; exact Heap.lt_size e3
    rw [upd_ne (Nat.ne_of_lt (Nat.lt_of_lt_of_le hlt hT))]
    exact (hf d hd).1
  done := by
    intro X hP hw hK hc i pins s σ H E I hf st hg
    subst hP hw hK
    obtain ⟨hz, hTI, ⟨x0, y0, u0, hTO⟩, h1, h2, h3⟩ := st
    obtain ⟨xs, ys, us, hqx, hqy, hqu, hi⟩ := hg
    obtain ⟨its, rv, p, _⟩ := I.list hqx
    obtain ⟨its2, rv2, p2, _⟩ := I.list hqy
    obtain ⟨its3, rv3, p3, _⟩ := I.list hqu
    have hh : X.A.in1.handled = none := I.ok.hd hc
    have apart : ∀ {l it : Addr} {items : Array Value} {j : Nat}, s.heap.IsList l items → s.heap.IsListIter it l j → l ≠ it := fun hl hi e => by
      obtain ⟨o, e1, c1, _⟩ := hl
      obtain ⟨o2, e2, c2, _⟩ := hi
      rw [e, e2] at e1
      cases e1
      rw [c1] at c2
      exact absurd (Value.type.inj c2) (by decide)
    have W := GoesN.zip3 (prog := X.prog) (w := X.w) (A := X.A) (elts := elts) (x1 := kk) (pos := tpos) S (Draws.list hh i1 a (apart p.isList h1) its.toArray) (Draws.list hh i2 b (apart p2.isList h2) its2.toArray) (Draws.list hh i3 c (apart p3.isList h3) its3.toArray)
    have hi' : i = min (min its.toArray.size its2.toArray.size) its3.toArray.size := by
      have l1 := rv.length
      have l2 := rv2.length
      have l3 := rv3.length
      simp
      omega
    subst hi'
    refine W.stops s _ _ ⟨hz, hTI, ⟨x0, y0, u0, hTO⟩, ⟨h1, p.isList⟩, ⟨h2, p2.isList⟩, ⟨h3, p3.isList⟩⟩ (fun h' tk hk _ => ?_)
    exact I.turnedL (t' := tk) (ch := [z, TO, i1, i2, i3]) hk (fun d hd => hf d (by simp at hd ⊢; rcases hd with q | q | q | q | q <;> simp [q]))
  self := fun A i s Q E st h => wpAny_pyIter_zip st.1 h
def iZip3 (K : PySem.W.Frag) (ta : TA) : TI := fun σ H R => ta σ H fun vs H1 => ∃ a b c xs ys us, vs = [.ref a, .ref b, .ref c] ∧ SqL K H1 a xs ∧ SqL K H1 b ys ∧ SqL K H1 c us ∧ R (Itz3 K a b c) H1
theorem pi_zip3 {X : Cx} {e e2 e3 : Expr} {ta : TA} {p pos tpos : Pos} {elts : List Expr} {kk : Nat} (hg : Gl X "zip") (hm : X.mg "zip" = none) (ha : PA X [e, e2, e3] ta)
    (hs : starEach [e, e2, e3] X.env = (false, eval e X.env) :: starEach [e2, e3] X.env := by rfl) (hpl : (backTo pos (starEach [e2, e3] X.env)).any (·.1) = false := by rfl) :
    PI X (.Tuple elts kk tpos) (.Call (.Name "zip" p) [e, e2, e3] [] pos) (iZip3 X.K ta) := by
  refine ⟨fun pins s σ H R I h => ?_⟩
  refine Call_ (ld_blt I hg hm PyProof.Rows.boot_zip (PyProof.Rows.callWith_type1 (thn (ha.run pos pins s σ H _ I h) fun us s1 ⟨vs, H1, I1, r1, q1⟩ => ?_) hs hpl))
  obtain ⟨a, b, c, xs, ys, us', ex, hqx, hqy, hqu, q⟩ := q1
  subst ex
  cases r1 with
  | cons r rr =>
    cases rr with
    | cons r' rr =>
      cases rr with
      | cons r'' rr =>
        cases rr
        cases r
        cases r'
        cases r''
        obtain ⟨its, rv, p1, _⟩ := I1.list hqx
        obtain ⟨its2, rv2, p2, _⟩ := I1.list hqy
        obtain ⟨its3, rv3, p3, _⟩ := I1.list hqu
        have la : a < s1.heap.objs.size := p1.lt
        have lb : b < s1.heap.objs.size := p2.lt
        have lc : c < s1.heap.objs.size := p3.lt
        refine zip_begins3 (begins_list a its.toArray) (begins_list b its2.toArray) (begins_list c its3.toArray) p1.isList p2.isList p3.isList fun h' hz hTI hTO h1 h2 h3 hsz hk => wpAny_pyIter_zip hz ?_
        have I2 : Inv X pins σ H1 { s1 with heap := h' } := I1.kept (t' := s1.toks) hk
        refine ⟨s1.heap.objs.size + 5, [s1.heap.objs.size + 5, s1.heap.objs.size + 3, s1.heap.objs.size + 4, s1.heap.objs.size, s1.heap.objs.size + 1, s1.heap.objs.size + 2], _, _, H1, rfl, I2, turn_zip3 (a := a) (b := b) (c := c) (zip_sep3 (N := s1.heap.objs.size) (fun d hd => by rw [List.mem_singleton.mp hd]; exact la) (fun d hd => by rw [List.mem_singleton.mp hd]; exact lb) (fun d hd => by rw [List.mem_singleton.mp hd]; exact lc)), ⟨hz, hTI, ⟨_, _, _, hTO⟩, ⟨_, h1, rfl, rfl⟩, ⟨_, h2, rfl, rfl⟩, ⟨_, h3, rfl, rfl⟩⟩, fun d hdm => ?_, q⟩
        have hle : s1.heap.objs.size ≤ d := by
          have e' : d = s1.heap.objs.size + 5 ∨ d = s1.heap.objs.size + 3 ∨ d = s1.heap.objs.size + 4 ∨ d = s1.heap.objs.size ∨ d = s1.heap.objs.size + 1 ∨ d = s1.heap.objs.size + 2 := by simpa using hdm
          rcases e' with z | z | z | z | z | z
          · rw [z]; exact Nat.le_add_right _ _
          · rw [z]; exact Nat.le_add_right _ _
          · rw [z]; exact Nat.le_add_right _ _
          · rw [z]; exact Nat.le_refl _
          · rw [z]; exact Nat.le_add_right _ _
          · rw [z]; exact Nat.le_add_right _ _
        exact I1.fpOk hle (I1.hok.fresh hle)
end L2
namespace Y
open PySem L2
section
variable {Z : Bs} {F H F' H' : Hp} {σ σ' : L2.St} {Γ Γ' : Gm} {Ω Ω' : Om} {K : PySem.W.Frag} {te ta tb tl : TE} {α β γ : Type}
theorem All.three {F : Hp} {R R' R'' : As} : ∀ {vs : List V}, All F [R, R', R''] vs → ∃ v w u, vs = [v, w, u] ∧ R.p F v ∧ R'.p F w ∧ R''.p F u
  | [], h => h.elim
  | [_], h => h.2.elim
  | [_, _], h => h.2.2.elim
  | [v, w, u], h => ⟨v, w, u, rfl, h.1, h.2.1, h.2.2.1⟩
  | _ :: _ :: _ :: _ :: _, h => h.2.2.2.elim
theorem src_z {xs : List α} {ys : List β} {f : α → As} {g : β → As} {ta : TA} (e : EvA Γ Ω ta [Ls K (xs.map f), Ls K (ys.map g)]) : Src Γ Ω (iZip K ta) (xs.zip ys) (fun p => Tp K [f p.1, g p.2]) := fun Z F H σ c R q => e Z F H σ c _ fun vs F1 H1 c1 s1 rv => by
  obtain ⟨v, w, rfl, ⟨a, vs, ea, hs, hl⟩, ⟨b, ws, eb, hs', hl'⟩⟩ := rv.two
  subst ea eb
  have l1 : vs.length = xs.length := by rw [hl.length, List.length_map]
  have l2 : ws.length = ys.length := by rw [hl'.length, List.length_map]
  refine ⟨a, b, vs, ws, rfl, c1.sub.seq hs, c1.sub.seq hs', q _ F1 H1 c1 s1 fun Z' F2 H2 σ2 Γ2 Ω2 c2 s2 => ?_⟩
  have ha2 := c2.sub.seq (s2.seq hs)
  have hb2 := c2.sub.seq (s2.seq hs')
  refine ⟨⟨vs, ws, ha2, hb2, by rw [List.length_zip]; omega⟩, fun i x hx => ?_⟩
  obtain ⟨h1, h2⟩ := List.getElem?_zip_eq_some.mp hx
  obtain ⟨v1, e1, r1⟩ := hl.get (i := i) (R := f x.1) (by rw [List.getElem?_map, h1]; rfl)
  obtain ⟨w1, e2, r2⟩ := hl'.get (i := i) (R := g x.2) (by rw [List.getElem?_map, h2]; rfl)
  refine ⟨⟨vs, ws, v1, w1, ha2, hb2, e1, e2⟩, fun v H3 hy => ?_⟩
  obtain ⟨T, x', y', ev, hT, eH, k1, k2⟩ := hy
  subst ev eH
  have := k1 vs ha2
  rw [e1] at this
  cases this
  have := k2 ws hb2
  rw [e2] at this
  cases this
  obtain ⟨e3, s3⟩ := Ext.new (o := .tup [v1, w1]) c2.sub hT
  exact ⟨_, e3, s3, T, _, rfl, SqT.of upd_same, (f x.1).mono (s2.trans e3.fe) r1, (g x.2).mono (s2.trans e3.fe) r2, trivial⟩
theorem src_z3 {xs : List α} {ys : List β} {zs : List γ} {f : α → As} {g : β → As} {h : γ → As} {ta : TA} (e : EvA Γ Ω ta [Ls K (xs.map f), Ls K (ys.map g), Ls K (zs.map h)]) : Src Γ Ω (iZip3 K ta) (xs.zip (ys.zip zs)) (fun p => Tp K [f p.1, g p.2.1, h p.2.2]) := fun Z F H σ c R q => e Z F H σ c _ fun vs F1 H1 c1 s1 rv => by
  obtain ⟨v, w, u, rfl, ⟨a, vs, ea, hs, hl⟩, ⟨b, ws, eb, hs', hl'⟩, ⟨d, us, ed, hs'', hl''⟩⟩ := rv.three
  subst ea eb ed
  have l1 : vs.length = xs.length := by rw [hl.length, List.length_map]
  have l2 : ws.length = ys.length := by rw [hl'.length, List.length_map]
  have l3 : us.length = zs.length := by rw [hl''.length, List.length_map]
  refine ⟨a, b, d, vs, ws, us, rfl, c1.sub.seq hs, c1.sub.seq hs', c1.sub.seq hs'', q _ F1 H1 c1 s1 fun Z' F2 H2 σ2 Γ2 Ω2 c2 s2 => ?_⟩
  have ha2 := c2.sub.seq (s2.seq hs)
  have hb2 := c2.sub.seq (s2.seq hs')
  have hd2 := c2.sub.seq (s2.seq hs'')
  refine ⟨⟨vs, ws, us, ha2, hb2, hd2, by rw [List.length_zip, List.length_zip]; omega⟩, fun i x hx => ?_⟩
  obtain ⟨h1, h23⟩ := List.getElem?_zip_eq_some.mp hx
  obtain ⟨h2, h3⟩ := List.getElem?_zip_eq_some.mp h23
  obtain ⟨v1, e1, r1⟩ := hl.get (i := i) (R := f x.1) (by rw [List.getElem?_map, h1]; rfl)
  obtain ⟨w1, e2, r2⟩ := hl'.get (i := i) (R := g x.2.1) (by rw [List.getElem?_map, h2]; rfl)
  obtain ⟨u1, e3, r3⟩ := hl''.get (i := i) (R := h x.2.2) (by rw [List.getElem?_map, h3]; rfl)
  refine ⟨⟨vs, ws, us, v1, w1, u1, ha2, hb2, hd2, e1, e2, e3⟩, fun v H3 hy => ?_⟩
  obtain ⟨T, x', y', z', ev, hT, eH, k1, k2, k3⟩ := hy
  subst ev eH
  have := k1 vs ha2
  rw [e1] at this
  cases this
  have := k2 ws hb2
  rw [e2] at this
  cases this
  have := k3 us hd2
  rw [e3] at this
  cases this
  obtain ⟨e4, s4⟩ := Ext.new (o := .tup [v1, w1, u1]) c2.sub hT
  exact ⟨_, e4, s4, T, _, rfl, SqT.of upd_same, (f x.1).mono (s2.trans e4.fe) r1, (g x.2.1).mono (s2.trans e4.fe) r2, (h x.2.2).mono (s2.trans e4.fe) r3, trivial⟩
/-- a module's constant that is a tuple of two ints -/
def KtQ (K : PySem.W.Frag) (a : Addr) (x y : Int) : Prop := ∀ F : Hp, SqT K F a [.int x, .int y]
theorem ktq_mk {a : Addr} {dd : Option Addr} {sl : Array (Option Value)} {x y : Int} {t1 t2 : Tok} {n : Nat} (h : K.lookup a = some ⟨.type "tuple", dd, .seq #[.int x t1, .int y t2] n, sl⟩) : KtQ K a x y := fun F =>
  .inr ⟨_, #[.int x t1, .int y t2], n, h, rfl, rfl, by show 2 ≤ sizeLine; decide, .cons ⟨t1, rfl⟩ (.cons ⟨t2, rfl⟩ .nil)⟩
theorem ev_kt {a : Addr} {x y : Int} (h : KtQ K a x y) : Ev Γ Ω (tC (.ref a)) (Fr K (x, y)) := fun Z F H σ c Q q => q _ F H c (Ext.refl _ _ _) ⟨a, _, rfl, h F, rfl, rfl, trivial⟩
theorem ev_ktq {a : Addr} {x : Int} (h : KtQ K a x 1) : Ev Γ Ω (tC (.ref a)) (Fq K (x : Rat)) := ev_kt h
end
end Y
namespace Y
open PySem L2
theorem ev_kt0 {Γ : Gm} {Ω : Om} {K : PySem.W.Frag} {a : Addr} (h : KtQ K a 0 1) : Ev Γ Ω (tC (.ref a)) (Fq K 0) := ev_kt h
end Y

namespace Y
open PySem L2 PySem.Spec
open PyProof.Rows (envOfC)
/-! ## new things inside methods; contracts that hand out more than they took -/
section
variable {Z : Bs} {F H F' H' : Hp} {σ σ' : L2.St} {Γ Γ' : Gm} {Ω Ω' Ωr : Om} {K : PySem.W.Frag} {te ta tb tl tk : TE} {tt : TT} {R Rx Ry : As} {Rs Ss : List As} {n : L2.St → Hp → Prop} {r : VK} {bk ct : L2.St → Hp → Prop} {p C dx : Addr} {fs : List (Str × As)} {f m : Str} {j : Nat} {E : XK} {A : OA}
/-- p may be written -/
def Wr (Z : Bs) (p : Addr) : Prop := p ∈ Z.ft ∨ Z.H p = none
theorem Ctx.frzW (c : Ctx Z F H σ Γ Ω) (hm : Ω[j]? = some (p, A)) (hA : RdL A Rs) (hzp : Z.H p = none) : ∃ F', Same F F' ∧ Ctx Z F' H σ Γ (Ω.eraseIdx j) ∧ (Ls K Rs).p F' (.ref p) := by
  have hmem := List.mem_of_getElem? hm
  have hj : j < Ω.length := (List.getElem?_eq_some_iff.mp hm).1
  obtain ⟨hf, o0, h0, hA0⟩ := c.own _ hmem
  obtain ⟨xs, e, hl⟩ := hA.rd _ _ hA0
  dsimp only at hf h0
  have s : Same F (upd F p (.lst xs)) := fun a u q => by rw [upd_ne (ne_of_none q hf)]; exact q
  have other : ∀ x ∈ Ω.eraseIdx j, x ∈ Ω ∧ x.1 ≠ p := fun x hx => by
    have hx' := List.mem_of_mem_eraseIdx hx
    refine ⟨hx', fun z => ?_⟩
    obtain ⟨i, hi⟩ := List.getElem?_of_mem hx
    rw [List.getElem?_eraseIdx] at hi
    split at hi
    · have a1 : (Ω.map (·.1))[i]? = some p := by rw [List.getElem?_map, hi, ← z]; rfl
      have a2 : (Ω.map (·.1))[j]? = some p := by rw [List.getElem?_map, hm]; rfl
      have := nd_ix c.nd a1 a2
      omega
    · have a1 : (Ω.map (·.1))[i + 1]? = some p := by rw [List.getElem?_map, hi, ← z]; rfl
      have a2 : (Ω.map (·.1))[j]? = some p := by rw [List.getElem?_map, hm]; rfl
      have := nd_ix c.nd a1 a2
      omega
  refine ⟨upd F p (.lst xs), s, ⟨c.sat.mono s, fun a u q => ?_, fun x hx => ?_, ((List.eraseIdx_sublist Ω j).map _).nodup c.nd, fun x hx => c.loc x (other x hx).1, ⟨c.ext.fe.trans s, c.ext.fr, c.ext.dm, fun a h1 h2 => ?_⟩, c.pin.trans s⟩, p, xs, rfl, SqL.of upd_same, hl.mono s⟩
  · by_cases z : a = p
    · subst z
      rw [upd_same] at q
      rw [h0, e]
      exact q
    · rw [upd_ne z] at q
      exact c.sub a u q
  · obtain ⟨hx1, hx2⟩ := other x hx
    obtain ⟨h1, o', h2, h3⟩ := c.own x hx1
    exact ⟨by rw [upd_ne hx2]; exact h1, o', h2, x.2.mono s h3⟩
  · have z : a ≠ p := fun z => h1 (by rw [z]; exact hzp)
    rw [upd_ne z]
    exact c.ext.nw a h1 h2
/-- a list that stands still, made by the program -/
def Lh (Rs : List As) : As := ⟨fun F v => ∃ a xs, v = .ref a ∧ F a = some (.lst xs) ∧ All F Rs xs, fun s h => by
  obtain ⟨a, xs, e, h1, h2⟩ := h; exact ⟨a, xs, e, s _ _ h1, h2.mono s⟩⟩
theorem ev_lh (h : Ev Γ Ω te (Lh Rs)) : Ev Γ Ω te (Ls K Rs) := ev_cast h fun F v ⟨a, xs, e, h1, h2⟩ => ⟨a, xs, e, SqL.of h1, h2⟩
theorem Ctx.frzH (c : Ctx Z F H σ Γ Ω) (hm : Ω[j]? = some (p, A)) (hA : RdL A Rs) (hzp : Z.H p = none) : ∃ F', Same F F' ∧ Ctx Z F' H σ Γ (Ω.eraseIdx j) ∧ (Lh Rs).p F' (.ref p) := by
  have hmem := List.mem_of_getElem? hm
  have hj : j < Ω.length := (List.getElem?_eq_some_iff.mp hm).1
  obtain ⟨hf, o0, h0, hA0⟩ := c.own _ hmem
  obtain ⟨xs, e, hl⟩ := hA.rd _ _ hA0
  dsimp only at hf h0
  have s : Same F (upd F p (.lst xs)) := fun a u q => by rw [upd_ne (ne_of_none q hf)]; exact q
  have other : ∀ x ∈ Ω.eraseIdx j, x ∈ Ω ∧ x.1 ≠ p := fun x hx => by
    have hx' := List.mem_of_mem_eraseIdx hx
    refine ⟨hx', fun z => ?_⟩
    obtain ⟨i, hi⟩ := List.getElem?_of_mem hx
    rw [List.getElem?_eraseIdx] at hi
    split at hi
    · have a1 : (Ω.map (·.1))[i]? = some p := by rw [List.getElem?_map, hi, ← z]; rfl
      have a2 : (Ω.map (·.1))[j]? = some p := by rw [List.getElem?_map, hm]; rfl
      have := nd_ix c.nd a1 a2
      omega
    · have a1 : (Ω.map (·.1))[i + 1]? = some p := by rw [List.getElem?_map, hi, ← z]; rfl
      have a2 : (Ω.map (·.1))[j]? = some p := by rw [List.getElem?_map, hm]; rfl
      have := nd_ix c.nd a1 a2
      omega
  refine ⟨upd F p (.lst xs), s, ⟨c.sat.mono s, fun a u q => ?_, fun x hx => ?_, ((List.eraseIdx_sublist Ω j).map _).nodup c.nd, fun x hx => c.loc x (other x hx).1, ⟨c.ext.fe.trans s, c.ext.fr, c.ext.dm, fun a h1 h2 => ?_⟩, c.pin.trans s⟩, p, xs, rfl, upd_same, hl.mono s⟩
  · by_cases z : a = p
    · subst z
      rw [upd_same] at q
      rw [h0, e]
      exact q
    · rw [upd_ne z] at q
      exact c.sub a u q
  · obtain ⟨hx1, hx2⟩ := other x hx
    obtain ⟨h1, o', h2, h3⟩ := c.own x hx1
    exact ⟨by rw [upd_ne hx2]; exact h1, o', h2, x.2.mono s h3⟩
  · have z : a ≠ p := fun z => h1 (by rw [z]; exact hzp)
    rw [upd_ne z]
    exact c.ext.nw a h1 h2
/-- less (or other) things said of what is owned -/
theorem Ctx.recast {B : OA} (c : Ctx Z F H σ Γ Ω) (hm : Ω[j]? = some (p, A)) (h : ∀ o, A.p F o → B.p F o) : Ctx Z F H σ Γ (Ω.set j (p, B)) := by
  have hj : j < Ω.length := (List.getElem?_eq_some_iff.mp hm).1
  have em : (Ω.set j (p, B)).map (·.1) = Ω.map (·.1) := by
    rw [List.map_set]
    refine List.ext_getElem? fun i => ?_
    rw [List.getElem?_set]
    split
    · rename_i e
      subst e
      split
      · rw [List.getElem?_map, hm]; rfl
      · rename_i h1; rw [List.length_map] at h1; exact absurd hj h1
    · rfl
  have mem : ∀ x, x ∈ Ω.set j (p, B) → x ∈ Ω ∨ x = (p, B) := fun x hx => by
    rcases List.mem_or_eq_of_mem_set hx with z | z
    · exact .inl z
    · exact .inr z
  refine ⟨c.sat, c.sub, fun x hx => ?_, by rw [em]; exact c.nd, fun x hx => ?_, c.ext, c.pin⟩
  · rcases mem x hx with z | z
    · exact c.own x z
    · subst z
      obtain ⟨h1, o, h2, h3⟩ := c.own _ (List.mem_of_getElem? hm)
      exact ⟨h1, o, h2, h o h3⟩
  · rcases mem x hx with z | z
    · exact c.loc x z
    · subst z
      exact c.loc (p, A) (List.mem_of_getElem? hm)
theorem st_nilW {i : Nat} (c : Ctx Z F H σ Γ Ω) (k : ∀ p F' H' σ', Ctx Z F' H' σ' (Γ.set i (some (Rf p))) ((p, oL []) :: Ω) → Same F F' → Z.H p = none → n σ' H') : tAsg (tLst tNil) (gName i) ⟨n, r, bk, ct⟩ σ H :=
  ⟨Nat.zero_le _, fun p hp => k p F _ _ ((c.grow (A := oL []) hp ⟨[], rfl, trivial⟩).set i rfl) (Same.refl _) (c.ext.dm _ hp)⟩
theorem st_appW (c : Ctx Z F H σ Γ Ω) (h : Ev Γ Ω ta (Rf p)) (hm : Ω[j]? = some (p, oL Rs)) (e : Ev Γ Ω te R) (hl : Rs.length ≤ 100000) (k : ∀ F' H', Ctx Z F' H' σ Γ (Ω.set j (p, oL (Rs ++ [R]))) → Same F F' → n σ H') (hw : Wr Z p) :
    tDrop (tBM K "list" rAppend ta (tCons te tNil)) ⟨n, r, bk, ct⟩ σ H :=
  h Z F H σ c _ fun v F1 H1 c1 s1 rv => by
    cases rv
    obtain ⟨_, o, h2, xs, eo, hx⟩ := c1.own _ (List.mem_of_getElem? hm)
    refine ⟨.inl ⟨rfl, _, SqL.of (by rw [h2, eo])⟩, ?_⟩
    refine e Z F1 H1 σ c1 _ fun y F2 H2 c2 s2 ry => ?_
    obtain ⟨_, o, h2, xs, eo, hx⟩ := c2.own _ (List.mem_of_getElem? hm)
    refine ⟨p, xs, y, rfl, rfl, by rw [h2, eo], ?_, ?_⟩
    · rw [hx.length]
      exact Nat.lt_of_le_of_lt hl (by decide)
    · exact k F2 _ (c2.chg hm ⟨_, rfl, hx.app ⟨ry, trivial⟩⟩ hw) (s1.trans s2).fe
theorem st_retLW (c : Ctx Z F H σ Γ Ω) (h : Ev Γ Ω te (Rf p)) (hm : Ω[j]? = some (p, A)) (hA : RdL A Rs) (k : ∀ v F' H', Ctx Z F' H' σ Γ (Ω.eraseIdx j) → Same F F' → (Ls K Rs).p F' v → r v H') (hzp : Z.H p = none) : tRet te ⟨n, r, bk, ct⟩ σ H :=
  h Z F H σ c _ fun v F1 H1 c1 s1 rv => by
    cases rv
    obtain ⟨F2, s2, c2, q⟩ := c1.frzW (K := K) hm hA hzp
    exact k _ F2 H1 c2 (s1.fe.trans s2) q
theorem st_retLH (c : Ctx Z F H σ Γ Ω) (h : Ev Γ Ω te (Rf p)) (hm : Ω[j]? = some (p, A)) (hA : RdL A Rs) (k : ∀ v F' H', Ctx Z F' H' σ Γ (Ω.eraseIdx j) → Same F F' → (Lh Rs).p F' v → r v H') (hzp : Z.H p = none) : tRet te ⟨n, r, bk, ct⟩ σ H :=
  h Z F H σ c _ fun v F1 H1 c1 s1 rv => by
    cases rv
    obtain ⟨F2, s2, c2, q⟩ := c1.frzH hm hA hzp
    exact k _ F2 H1 c2 (s1.fe.trans s2) q
theorem st_fldW (c : Ctx Z F H σ Γ Ω) (e : Ev Γ Ω te R) (ha : Ev Γ Ω ta (Rf p)) (hm : Ω[j]? = some (p, oI C dx fs)) (hc : Cls K C) (hn : NoAttr K C f) (hl : fs.length < 1000) (k : ∀ F' H', Ctx Z F' H' σ Γ (Ω.set j (p, oI C dx (putA f R fs))) → Same F F' → n σ H') (hw : Wr Z p) :
    sFld K ta te f ⟨n, r, bk, ct⟩ σ H := e Z F H σ c _ fun y F1 H1 c1 s1 ry => ha Z F1 H1 σ c1 _ fun x F2 H2 c2 s2 rx => by
  cases rx
  obtain ⟨_, o, h2, vs, eo, ha⟩ := c2.own _ (List.mem_of_getElem? hm)
  subst eo
  refine ⟨p, C, dx, vs, rfl, h2, hc, hn, by rw [ha.length]; exact hl, ?_⟩
  exact k F2 _ (c2.chg hm ⟨_, rfl, ha.put (R.mono s2.fe ry)⟩ hw) (s1.trans s2).fe
/-- o.f = something new -/
theorem st_fldO (c : Ctx Z F H σ Γ Ω) (e : EvNw Γ Ω te A) (ha : ∀ q, Ev Γ ((q, A) :: Ω) ta (Rf p)) (hm : Ω[j]? = some (p, oI C dx fs)) (hc : Cls K C) (hn : NoAttr K C f) (hl : fs.length < 1000) (k : ∀ q F' H', Ctx Z F' H' σ Γ ((q, A) :: Ω.set j (p, oI C dx (putA f (Rf q) fs))) → Same F F' → Z.H q = none → n σ H') (hw : Wr Z p) :
    sFld K ta te f ⟨n, r, bk, ct⟩ σ H := e Z F H σ c _ fun q F1 H1 c1 s1 hq => ha q Z F1 H1 σ c1 _ fun x F2 H2 c2 s2 rx => by
  cases rx
  have hm2 : ((q, A) :: Ω)[j + 1]? = some (p, oI C dx fs) := hm
  obtain ⟨_, o, h2, vs, eo, ha⟩ := c2.own _ (List.mem_of_getElem? hm2)
  subst eo
  refine ⟨p, C, dx, vs, rfl, h2, hc, hn, by rw [ha.length]; exact hl, ?_⟩
  exact k q F2 _ (c2.chg hm2 ⟨_, rfl, ha.put rfl⟩ hw) (s1.trans s2).fe (c.ext.dm _ hq)
/-- behind a call that changes what it owns, and may hand out more -/
theorem Ctx.changedG {Ωi Ωo : Om} (c : Ctx Z F H σ Γ (Ωi ++ Ωr)) (e : Ext (Ωi.map (·.1)) F H F' H') (s : Same F' H') (o : Own F' H' Ωo) (nd : (Ωo.map (·.1)).Nodup) (hn : ∀ x ∈ Ωo.map (·.1), x ∈ Ωi.map (·.1) ∨ H x = none) (hw : ∀ x ∈ Ωi.map (·.1), Wr Z x) : Ctx Z F' H' σ Γ (Ωo ++ Ωr) := by
  have nd0 := c.nd
  rw [List.map_append, List.nodup_append] at nd0
  have dis : ∀ x, x ∈ Ωr → x.1 ∉ Ωi.map (·.1) := fun x hx hi => nd0.2.2 _ hi _ (List.mem_map.mpr ⟨x, hx, rfl⟩) rfl
  refine ⟨c.sat.mono e.fe, s, fun x hx => ?_, ?_, fun x hx => ?_, c.ext.transL e hw, c.pin.trans e.fe⟩
  · rcases List.mem_append.mp hx with hx | hx
    · exact o x hx
    · obtain ⟨h1, o', h2, h3⟩ := c.own x (List.mem_append_right _ hx)
      exact ⟨e.nw _ (by rw [h2]; exact fun z => by cases z) h1, o', e.fr _ _ h2 (dis x hx), x.2.mono e.fe h3⟩
  · rw [List.map_append, List.nodup_append]
    refine ⟨nd, nd0.2.1, fun a ha b hb z => ?_⟩
    subst z
    obtain ⟨x, hx, rfl⟩ := List.mem_map.mp hb
    rcases hn _ ha with l | l
    · exact dis x hx l
    · obtain ⟨_, o', h2, _⟩ := c.own x (List.mem_append_right _ hx)
      rw [l] at h2; cases h2
  · rcases List.mem_append.mp hx with hx | hx
    · rcases hn _ (List.mem_map.mpr ⟨x, hx, rfl⟩) with l | l
      · rcases hw _ l with l | l
        · exact .inl l
        · exact .inr (.inl l)
      · exact .inr (.inl (c.ext.dm _ l))
    · exact c.loc x (List.mem_append_right _ hx)
/-- a contract that changes, and may hand out new things as well -/
def CtG {α β : Type} (args : α → List As) (Oi : α → Om) (pre : α → Prop) (post : α → β → Prop) (res : α → β → As) (Oo : α → β → Om) : Sp := fun vs H Q _ =>
  ∃ a F, Same F H ∧ All F (args a) vs ∧ Own F H (Oi a) ∧ ((Oi a).map (·.1)).Nodup ∧ pre a ∧ ∀ b v F' H', post a b → Ext ((Oi a).map (·.1)) F H F' H' → Same F' H' → (res a b).p F' v → Own F' H' (Oo a b) → ((Oo a b).map (·.1)).Nodup → (∀ x ∈ (Oo a b).map (·.1), x ∈ (Oi a).map (·.1) ∨ H x = none) → Q v H'
theorem CtG.len {α β : Type} {args : α → List As} {Oi : α → Om} {pre : α → Prop} {post : α → β → Prop} {res : α → β → As} {Oo : α → β → Om} {n : Nat} (h : ∀ a, (args a).length = n) : ∀ vs H Q E, CtG args Oi pre post res Oo vs H Q E → vs.length = n := by
  rintro vs H Q E ⟨a, F, _, ha, _⟩
  rw [ha.length, h]
/-- an expression that changes what is owned -/
def EvM (Z : Bs) (Γ : Gm) (Ω : Om) (te : TE) (R : As) (Ω' : Om) : Prop := ∀ (F H : Hp) (σ : L2.St), Ctx Z F H σ Γ Ω → ∀ Q : VK, (∀ v F' H', Ctx Z F' H' σ Γ Ω' → Same F F' → R.p F' v → Q v H') → te σ H Q
theorem em_meth {α : Type} {args : α → List As} {Oi Oo : α → Om} {pre : α → Prop} {res : α → As} {t : TA} (a : α) (ho : Ev Γ Ω ta (Rf p)) (hm : Ω[j]? = some (p, oI C dx fs)) (hn : fs.lookup m = none) (h : EvA Γ Ω t Rs) (ha : args a = Rf p :: Rs) (hs : Ω.Perm (Oi a ++ Ωr)) (hp : pre a)
    (hoo : (Oo a).map (·.1) = (Oi a).map (·.1)) (hw : ∀ x ∈ (Oi a).map (·.1), Wr Z x) : EvM Z Γ Ω (tMeth C m (CtM args Oi pre res Oo) [] E ta t) (res a) (Oo a ++ Ωr) := fun F H σ c Q k =>
  ho Z F H σ c _ fun x F1 H1 c1 s1 rx => by
    cases rx
    obtain ⟨_, o, h2, vs, eo, hf⟩ := c1.own _ (List.mem_of_getElem? hm)
    subst eo
    refine ⟨p, dx, vs, rfl, h2, hf.none hn, h Z F1 H1 σ c1 _ fun ws F2 H2 c2 s2 rs => ?_⟩
    have cp := c2.perm hs
    have nd := cp.nd
    rw [List.map_append, List.nodup_append] at nd
    refine ⟨a, F2, c2.sub, ?_, cp.own.sub fun x hx => List.mem_append_left _ hx, nd.1, hp, fun v F3 H3 e3 s3 rv ow => k v F3 H3 (cp.changedG e3 s3 ow (by rw [hoo]; exact nd.1) (fun x hx => .inl (by rw [← hoo]; exact hx)) hw) ((s1.trans s2).fe.trans e3.fe) rv⟩
    rw [ha, List.append_nil]
    exact ⟨rfl, rs⟩
theorem em_set {i : Nat} (c : Ctx Z F H σ Γ Ω) (e : EvM Z Γ Ω te R Ω') (k : ∀ F' H' σ', Ctx Z F' H' σ' (Γ.set i (some R)) Ω' → Same F F' → n σ' H') : tAsg te (gName i) ⟨n, r, bk, ct⟩ σ H := e F H σ c _ fun v F1 H1 c1 s1 rv => k F1 H1 _ (c1.set i rv) s1
theorem em_asg {g : TG} {ws : List Nat} (c : Ctx Z F H σ Γ Ω) (e : EvM Z Γ Ω te R Ω') (hg : Gt Γ R g Γ' ws) (k : ∀ F' H' σ', Ctx Z F' H' σ' Γ' Ω' → Same F F' → n σ' H') : tAsg te g ⟨n, r, bk, ct⟩ σ H := e F H σ c _ fun v F1 H1 c1 s1 rv => hg Z F1 H1 σ v Ω' c1 rv _ fun σ' c2 _ => k F1 H1 σ' c2 s1
theorem em_drop (c : Ctx Z F H σ Γ Ω) (e : EvM Z Γ Ω te R Ω') (k : ∀ F' H', Ctx Z F' H' σ Γ Ω' → Same F F' → n σ H') : tDrop te ⟨n, r, bk, ct⟩ σ H := e F H σ c _ fun v F1 H1 c1 s1 rv => k F1 H1 c1 s1
theorem em_ret (c : Ctx Z F H σ Γ Ω) (e : EvM Z Γ Ω te R Ω') (k : ∀ v F' H', Ctx Z F' H' σ Γ Ω' → Same F F' → R.p F' v → r v H') : tRet te ⟨n, r, bk, ct⟩ σ H := e F H σ c _ k
/-- x.append(e), e changes what is owned (but not x) -/
theorem em_app {q : Addr} {j2 : Nat} (c : Ctx Z F H σ Γ Ω) (h : Ev Γ Ω ta (Rf q)) (hm : Ω[j]? = some (q, oL Rs)) (e : EvM Z Γ Ω te R Ω') (hm2 : Ω'[j2]? = some (q, oL Rs)) (hl : Rs.length ≤ 100000) (k : ∀ F' H', Ctx Z F' H' σ Γ (Ω'.set j2 (q, oL (Rs ++ [R]))) → Same F F' → n σ H') (hw : Wr Z q) :
    tDrop (tBM K "list" rAppend ta (tCons te tNil)) ⟨n, r, bk, ct⟩ σ H :=
  h Z F H σ c _ fun v F1 H1 c1 s1 rv => by
    cases rv
    obtain ⟨_, o, h2, xs, eo, hx⟩ := c1.own _ (List.mem_of_getElem? hm)
    refine ⟨.inl ⟨rfl, _, SqL.of (by rw [h2, eo])⟩, ?_⟩
    refine e F1 H1 σ c1 _ fun y F2 H2 c2 s2 ry => ?_
    obtain ⟨_, o, h2, xs, eo, hx⟩ := c2.own _ (List.mem_of_getElem? hm2)
    refine ⟨q, xs, y, rfl, rfl, by rw [h2, eo], ?_, ?_⟩
    · rw [hx.length]
      exact Nat.lt_of_le_of_lt hl (by decide)
    · exact k F2 _ (c2.chg hm2 ⟨_, rfl, hx.app ⟨ry, trivial⟩⟩ hw) (s1.fe.trans s2)
/-- x.extend(e), e changes what is owned (but not x) -/
theorem em_ext {q : Addr} {j2 : Nat} (c : Ctx Z F H σ Γ Ω) (h : Ev Γ Ω ta (Rf q)) (hm : Ω[j]? = some (q, oL Rs)) (e : EvM Z Γ Ω te (Lh Ss) Ω') (hm2 : Ω'[j2]? = some (q, oL Rs)) (hl : Rs.length + Ss.length ≤ 100000) (k : ∀ F' H', Ctx Z F' H' σ Γ (Ω'.set j2 (q, oL (Rs ++ Ss))) → Same F F' → n σ H') (hw : Wr Z q) :
    tDrop (tBM K "list" rExtend ta (tCons te tNil)) ⟨n, r, bk, ct⟩ σ H :=
  h Z F H σ c _ fun v F1 H1 c1 s1 rv => by
    cases rv
    obtain ⟨_, o, h2, xs, eo, hx⟩ := c1.own _ (List.mem_of_getElem? hm)
    refine ⟨.inl ⟨rfl, _, SqL.of (by rw [h2, eo])⟩, ?_⟩
    refine e F1 H1 σ c1 _ fun y F2 H2 c2 s2 ry => ?_
    obtain ⟨b, zs, ey, hb, hz⟩ := ry
    subst ey
    obtain ⟨_, o, h2, xs, eo, hx⟩ := c2.own _ (List.mem_of_getElem? hm2)
    refine ⟨q, b, xs, zs, rfl, rfl, by rw [h2, eo], c2.sub _ _ hb, ?_, ?_⟩
    · rw [hx.length, hz.length]
      exact Nat.le_trans hl (by decide)
    · exact k F2 _ (c2.chg hm2 ⟨_, rfl, hx.app hz⟩ hw) (s1.fe.trans s2)
/-- x + e, x owned, e changes what is owned (but not x); frozen -/
theorem em_cat {q : Addr} {j2 : Nat} (h : Ev Γ Ω ta (Rf q)) (hm2 : Ω'[j2]? = some (q, oL Rs)) (e : EvM Z Γ Ω tb (Lh Ss) Ω') (hl : Rs.length + Ss.length ≤ 100000) : EvM Z Γ Ω (tOp rCat ta tb) (Ls K (Rs ++ Ss)) Ω' := fun F H σ c Q k =>
  h Z F H σ c _ fun v F1 H1 c1 s1 rv => by
    cases rv
    refine e F1 H1 σ c1 _ fun y F2 H2 c2 s2 ry => ?_
    obtain ⟨b, zs, ey, hb, hz⟩ := ry
    subst ey
    obtain ⟨_, o, h2, xs, eo, hx⟩ := c2.own _ (List.mem_of_getElem? hm2)
    refine ⟨q, b, xs, zs, rfl, rfl, by rw [h2, eo], c2.sub _ _ hb, ?_, fun p hp => ?_⟩
    · rw [hx.length, hz.length]
      exact Nat.le_trans hl (by decide)
    · obtain ⟨e3, s3⟩ := Ext.new (o := .lst (xs ++ zs)) c2.sub hp
      exact k (.ref p) _ _ (c2.step e3 s3) (s1.fe.trans (s2.trans e3.fe)) ⟨p, xs ++ zs, rfl, SqL.of upd_same, (hx.app hz).mono e3.fe⟩
/-- x = C(e, ..): a new instance, and what it brought along -/
theorem st_makeG {α β : Type} {args : α → Addr → List As} {Oi : α × Addr × Addr → Om} {Oo : α × Addr × Addr → β → Om} {pre : α × Addr × Addr → Prop} {post : α × Addr × Addr → β → Prop} {res : α × Addr × Addr → β → As} {t : TA} {Q : VK} (a : α) (c : Ctx Z F H σ Γ Ω) (h : EvA Γ Ω t Rs) (ha : ∀ x, args a x = Rf x :: Rs) (hoi : ∀ x dx, Oi (a, x, dx) = [(x, oI C dx [])]) (hp : ∀ x dx, pre (a, x, dx)) (hr : ∀ x dx b F v, (res (a, x, dx) b).p F v → v = .non)
    (k : ∀ b x dx F' H', post (a, x, dx) b → Ctx Z F' H' σ Γ (Oo (a, x, dx) b ++ Ω) → Same F F' → (∀ y ∈ (Oo (a, x, dx) b).map (·.1), Z.H y = none) → Q (.ref x) H') : tMake C (CtG (fun b : α × Addr × Addr => args b.1 b.2.1) Oi pre post res Oo) [] E t σ H Q :=
  h Z F H σ c _ fun vs F1 H1 c1 s1 rs => by
    intro x dx hx hd hne
    have c2 := (c1.grow (p := dx) (o := .own x) (A := ⟨fun _ _ => True, fun _ h => h⟩) hd trivial).tail
    have hx2 : upd H1 dx (.own x) x = none := by rw [upd_ne (Ne.symm hne)]; exact hx
    have c3 := c2.grow (p := x) (o := .ins C dx []) (A := oI C dx []) hx2 ⟨[], rfl, trivial⟩
    have c3' : Ctx Z F1 (upd (upd H1 dx (.own x)) x (.ins C dx [])) σ Γ (Oi (a, x, dx) ++ Ω) := by rw [hoi]; exact c3
    have hzx : Z.H x = none := c1.ext.dm _ hx
    refine ⟨(a, x, dx), F1, c3.sub, ?_, c3'.own.sub fun y hy => List.mem_append_left _ hy, by rw [hoi]; simp, hp x dx, fun b v F3 H3 hb e3 s3 rv ow nd hn => ⟨hr x dx b _ _ rv, ?_⟩⟩
    · dsimp only
      rw [ha, List.append_nil]
      exact ⟨rfl, rs⟩
    · refine k b x dx F3 H3 hb (c3'.changedG e3 s3 ow nd hn (by rw [hoi]; intro y hy; rw [List.mem_singleton.mp hy]; exact .inr hzx)) (s1.fe.trans e3.fe) fun y hy => ?_
      rcases hn y hy with l | l
      · rw [hoi] at l; rw [List.mem_singleton.mp l]; exact hzx
      · exact c3.ext.dm _ l
/-- tests that change what is owned -/
def EvTM (Z : Bs) (Γ : Gm) (Ω : Om) (tt : TT) (b : Bool) (Ω' : Om) : Prop := ∀ (F H : Hp) (σ : L2.St), Ctx Z F H σ Γ Ω → ∀ Q : Bool → Hp → Prop, (∀ F' H', Ctx Z F' H' σ Γ Ω' → Same F F' → Q b H') → tt σ H Q
theorem em_op {r : R2} (ha : EvM Z Γ Ω ta Rx Ω') (hb : Ev Γ Ω' tb Ry) (hr : RV r Rx Ry R) : EvM Z Γ Ω (tOp r ta tb) R Ω' := fun F H σ c Q k =>
  ha F H σ c _ fun x F1 H1 c1 s1 rx => hb Z F1 H1 σ c1 _ fun y F2 H2 c2 s2 ry =>
    hr F2 H2 x y c2.sub (Rx.mono s2.fe rx) ry Q fun v F3 H3 e3 s3 rv => k v F3 H3 (c2.step e3 s3) (s1.trans (s2.fe.trans e3.fe)) rv
theorem em_is {R' : As} (h : EvM Z Γ Ω te R Ω') (e : R = R') : EvM Z Γ Ω te R' Ω' := e ▸ h
theorem em_of (h : Ev Γ Ω te R) : EvM Z Γ Ω te R Ω := fun F H σ c Q k => h Z F H σ c Q fun v F1 H1 c1 s1 rv => k v F1 H1 c1 s1.fe rv
theorem em_neK {α : Type} [DecidableEq α] {f : α → As} {d : α → PyData} {k : Nat} {x y : α} (h : Kd K f d k) (ha : EvM Z Γ Ω ta (f x) Ω') (hb : Ev Γ Ω' tb (f y)) (l : k ≤ 64 := by decide) : EvM Z Γ Ω (tOp (rNeD K) ta tb) (B (!decide (x = y))) Ω' :=
  em_is (em_op ha hb fun F H v w s rx ry Q q => ⟨d x, d y, (h.is x).dp F H v s rx, (h.is y).dp F H w s ry, (h.gd x).shaped l, (h.gd y).shaped l, q _ F H (Ext.refl _ _ _) s rfl⟩) (congrArg (fun b => B (!b)) (by rw [Bool.eq_iff_iff, h.eq, decide_eq_true_iff]))
theorem tm_test {b : Bool} (h : EvM Z Γ Ω te (B b) Ω') : EvTM Z Γ Ω (tTest te) b Ω' := fun F H σ c Q q => h F H σ c _ fun v F1 H1 c1 s1 r => ⟨b, r, q F1 H1 c1 s1⟩
theorem tm_B {b : Bool} (h : EvM Z Γ Ω te (B b) Ω') : EvTM Z Γ Ω (tB te) b Ω' := fun F H σ c Q q => h F H σ c _ fun v F1 H1 c1 s1 r => ⟨b, r, q F1 H1 c1 s1⟩
theorem tm_not {b : Bool} (h : EvTM Z Γ Ω tt b Ω') : EvTM Z Γ Ω (tNot tt) (!b) Ω' := fun F H σ c Q q => h F H σ c _ fun F1 H1 c1 s1 => q F1 H1 c1 s1
theorem tm_is {a b : Bool} (h : EvTM Z Γ Ω tt a Ω') (e : a = b) : EvTM Z Γ Ω tt b Ω' := e ▸ h
/-- a or b, a known to be False -/
theorem tm_or {tu : TT} {b : Bool} (h : EvT Γ Ω tt false) (h2 : EvTM Z Γ Ω tu b Ω') : EvTM Z Γ Ω (tOr tt tu) b Ω' := fun F H σ c Q q => h Z F H σ c _ fun F1 H1 c1 s1 => iteF (h2 F1 H1 σ c1 Q fun F2 H2 c2 s2 => q F2 H2 c2 (s1.fe.trans s2))
/-- a or b, a changes and is False -/
theorem tm_orM {tu : TT} {b : Bool} {Ω2 : Om} (h : EvTM Z Γ Ω tt false Ω') (h2 : EvTM Z Γ Ω' tu b Ω2) : EvTM Z Γ Ω (tOr tt tu) b Ω2 := fun F H σ c Q q => h F H σ c _ fun F1 H1 c1 s1 => iteF (h2 F1 H1 σ c1 Q fun F2 H2 c2 s2 => q F2 H2 c2 (s1.trans s2))
theorem tm_of {b : Bool} (h : EvT Γ Ω tt b) : EvTM Z Γ Ω tt b Ω := fun F H σ c Q q => h Z F H σ c Q fun F1 H1 c1 s1 => q F1 H1 c1 s1.fe
theorem tm_if {t1 t2 : TS} {b : Bool} (c : Ctx Z F H σ Γ Ω) (e : EvTM Z Γ Ω tt b Ω') (k1 : b = true → ∀ F' H', Ctx Z F' H' σ Γ Ω' → Same F F' → t1 ⟨n, r, bk, ct⟩ σ H') (k2 : b = false → ∀ F' H', Ctx Z F' H' σ Γ Ω' → Same F F' → t2 ⟨n, r, bk, ct⟩ σ H') : tIfS tt t1 t2 ⟨n, r, bk, ct⟩ σ H :=
  e F H σ c _ fun F1 H1 c1 s1 => by
    cases b with
    | true => exact iteT (k1 rfl F1 H1 c1 s1)
    | false => exact iteF (k2 rfl F1 H1 c1 s1)
/-- x = C(e, ..) -/
theorem st_makeGS {α β : Type} {i : Nat} {args : α → Addr → List As} {Oi : α × Addr × Addr → Om} {Oo : α × Addr × Addr → β → Om} {pre : α × Addr × Addr → Prop} {post : α × Addr × Addr → β → Prop} {res : α × Addr × Addr → β → As} {t : TA} (a : α) (c : Ctx Z F H σ Γ Ω) (h : EvA Γ Ω t Rs) (ha : ∀ x, args a x = Rf x :: Rs) (hoi : ∀ x dx, Oi (a, x, dx) = [(x, oI C dx [])]) (hp : ∀ x dx, pre (a, x, dx)) (hr : ∀ x dx b F v, (res (a, x, dx) b).p F v → v = .non)
    (k : ∀ b x dx F' H' σ', post (a, x, dx) b → Ctx Z F' H' σ' (Γ.set i (some (Rf x))) (Oo (a, x, dx) b ++ Ω) → Same F F' → (∀ y ∈ (Oo (a, x, dx) b).map (·.1), Z.H y = none) → n σ' H') : tAsg (tMake C (CtG (fun b : α × Addr × Addr => args b.1 b.2.1) Oi pre post res Oo) [] E t) (gName i) ⟨n, r, bk, ct⟩ σ H :=
  st_makeG a c h ha hoi hp hr fun b x dx F1 H1 hb c1 s1 hz => k b x dx F1 H1 _ hb (c1.set i rfl) s1 hz
end
theorem wr2 {Z : Bs} {p q : Addr} (h1 : Wr Z p) (h2 : Wr Z q) : ∀ x ∈ [p, q], Wr Z x := fun x hx => by
  rcases List.mem_cons.mp hx with z | z
  · rw [z]; exact h1
  · rw [List.mem_singleton.mp z]; exact h2
theorem wr1 {Z : Bs} {p : Addr} (h1 : Wr Z p) : ∀ x ∈ [p], Wr Z x := fun x hx => by
  rw [List.mem_singleton.mp hx]; exact h1
/-- for over a list that some family tells of -/
theorem st_forX {K : PySem.W.Frag} {Z : Bs} {F H : Hp} {σ : L2.St} {Γ : Gm} {Ω : Om} {tl : TE} {g : TG} {tb : TS} {D : Ends} {β : Type} {P : β → Prop} {Rb : β → As} (c : Ctx Z F H σ Γ Ω) (e : Ev Γ Ω tl (Xs P Rb)) (k : ∀ b v F' H', P b → Ctx Z F' H' σ Γ Ω → Same F F' → (Rb b).p F' v → tFor (iList K (fun _ H Q => Q v H)) g tb D σ H') : tFor (iList K tl) g tb D σ H :=
  e Z F H σ c _ fun v F1 H1 c1 s1 ⟨b, hb, rv⟩ => k b v F1 H1 hb c1 s1.fe rv
theorem st_forV {K : PySem.W.Frag} {Z : Bs} {F H : Hp} {σ : L2.St} {n : L2.St → Hp → Prop} {r : VK} {bk ct : L2.St → Hp → Prop} {ι α : Type} {v : V} {g : TG} {tb : TS} {xs : List α} {f : α → As} (G : ι → Gm) (G' : α → ι → Gm) (O : ι → Om) (P : Nat → ι → Prop) {ws : List Nat} (i0 : ι) (c : Ctx Z F H σ (G i0) (O i0)) (rv : (Ls K (xs.map f)).p F v) (p0 : P 0 i0)
    (hg : ∀ x i, Gt (G i) (f x) g (G' x i) ws)
    (body : ∀ k x i G1 F H σ (N : L2.St → Hp → Prop), xs[k]? = some x → P k i → Ctx (Z.pin G1) F H σ (G' x i) (O i) → (∀ j F' H' σ', P (k + 1) j → Ctx (Z.pin G1) F' H' σ' (G j) (O j) → N σ' H') → tb ⟨N, r, n, N⟩ σ H)
    (hd : ∀ i F H σ, P xs.length i → Ctx Z F H σ (G i) (O i) → n σ H) : tFor (iList K (fun _ H Q => Q v H)) g tb ⟨n, r, bk, ct⟩ σ H := by
  obtain ⟨a, ys, ea, hs, hl⟩ := rv
  have hlen : ys.length = xs.length := by rw [hl.length, List.length_map]
  refine ⟨a, ea, ⟨ys, c.sub.seq hs⟩, for_list (K := K) (a := a) (xs := ys) (fun k σ H => ∃ i F', P k i ∧ Ctx (Z.pin F) F' H σ (G i) (O i)) ⟨i0, F, p0, c.topin (Same.refl _)⟩ (fun k σ H _ ⟨i, F, _, cc⟩ => cc.sub.seq (cc.pin.seq hs)) ?_ ?_⟩
  · rintro k y σ H hy ⟨i, F', p, cc⟩
    have hk : k < xs.length := by rw [← hlen]; exact (List.getElem?_eq_some_iff.mp hy).1
    have hx : xs[k]? = some xs[k] := List.getElem?_eq_getElem hk
    have hz : (xs.map f)[k]? = some (f xs[k]) := by rw [List.getElem?_map, hx]; rfl
    obtain ⟨y', ey, ry⟩ := hl.get hz
    rw [hy] at ey
    cases ey
    refine hg xs[k] i (Z.pin F) F' H σ y (O i) cc ((f xs[k]).mono cc.pin ry) _ fun σ' c' _ => ?_
    exact body k xs[k] i F F' H σ' _ hx p c' fun j F'' H' σ'' pj cj => ⟨j, F'', pj, cj⟩
  · rintro σ H ⟨i, F', p, cc⟩
    rw [hlen] at p
    exact hd i F' H σ p (cc.unpin c.pin)
/-- a list against the list without items, where its items need not tell all -/
theorem ev_cmpNilD {K : PySem.W.Frag} {Γ : Gm} {Ω : Om} {ta : TE} {α : Type} {f : α → As} {d : α → PyData} {k : Nat} {xs : List α} (neg : Bool) (his : ∀ x, IsD K (f x) (d x)) (hgd : ∀ x, Gd k (d x)) (ha : Lk K Γ Ω ta (xs.map f)) (l : k ≤ 63 := by decide) : Ev Γ Ω (tOp (if neg then rNeD K else rEqD K) ta (tLst tNil)) (B (if neg then !xs.isEmpty else xs.isEmpty)) := fun Z F H σ c Q q =>
  ha Z F H σ c _ fun a F1 H1 c1 s1 hs => ⟨Nat.zero_le _, fun p hp => by
    obtain ⟨F2, H2, e, c2, s2, r⟩ := new_ls (K := K) (Rs := []) (xs := []) c1 trivial hp
    rw [← e]
    obtain ⟨ys, hs2, hl⟩ := hs F2 H2 c2 s2.fe
    have d1 : Dp K H2 (.ref a) (.list (xs.map d)) := .lst hs2 (dpall (alld_map his xs) c2.sub hl)
    have d2 : Dp K H2 (.ref p) (.list []) := by
      obtain ⟨p', zs, ep, hz, hzl⟩ := r
      cases ep
      exact .lst (c2.sub.seq hz) (dpall (Rs := []) (ds := []) trivial c2.sub hzl)
    have g1 : Gd (k + 1) (.list (xs.map d)) := gd_list fun d' hd => by
      obtain ⟨x, _, e⟩ := List.mem_map.mp hd
      subst e; exact hgd x
    have sh1 := g1.shaped (Nat.succ_le_succ l)
    have sh2 : SeqAt.shaped (.list []) = true := by decide
    have ee : PyData.eqv (.list (xs.map d)) (.list []) = xs.isEmpty := by
      cases xs <;> rfl
    cases neg with
    | true => exact ⟨_, _, d1, d2, sh1, sh2, by rw [ee]; exact q _ F2 H2 c2 (s1.trans s2) rfl⟩
    | false => exact ⟨_, _, d1, d2, sh1, sh2, by rw [ee]; exact q _ F2 H2 c2 (s1.trans s2) rfl⟩⟩
/-! ## dicts by whole numbers -/
def AllK (F : Hp) : List (Int × As) → List (Key × V) → Prop
  | [], [] => True
  | (k, R) :: l, (q, v) :: kvs => q = .inl k ∧ R.p F v ∧ AllK F l kvs
  | _, _ => False
theorem AllK.mono {F F' : Hp} (s : Same F F') : ∀ {l : List (Int × As)} {kvs : List (Key × V)}, AllK F l kvs → AllK F' l kvs
  | [], [], _ => trivial
  | (k, R) :: l, (q, v) :: kvs, h => ⟨h.1, R.mono s h.2.1, AllK.mono s h.2.2⟩
  | [], _ :: _, h => h.elim
  | _ :: _, [], h => h.elim
theorem AllK.length {F : Hp} : ∀ {l : List (Int × As)} {kvs : List (Key × V)}, AllK F l kvs → kvs.length = l.length
  | [], [], _ => rfl
  | (k, R) :: l, (q, v) :: kvs, h => congrArg (· + 1) (AllK.length h.2.2)
  | [], _ :: _, h => h.elim
  | _ :: _, [], h => h.elim
/-- what stands at k -/
def getD {β : Type} (k : Int) : List (Int × β) → Option β
  | [] => none
  | (i, y) :: l => if i = k then some y else getD k l
def hasD {β : Type} (k : Int) : List (Int × β) → Bool
  | [] => false
  | (i, _) :: l => decide (i = k) || hasD k l
def putD {β : Type} (l : List (Int × β)) (k : Int) (y : β) : List (Int × β) := if hasD k l then l.map fun p => if p.1 = k then (p.1, y) else p else l ++ [(k, y)]
theorem getD_map {β γ : Type} {g : β → γ} (k : Int) : ∀ l : List (Int × β), getD k (l.map fun p => (p.1, g p.2)) = (getD k l).map g
  | [] => rfl
  | (i, y) :: l => by
    show (if i = k then some (g y) else getD k (l.map fun p => (p.1, g p.2))) = (if i = k then some y else getD k l).map g
    split
    · rfl
    · exact getD_map k l
theorem hasD_map {β γ : Type} {g : β → γ} (k : Int) : ∀ l : List (Int × β), hasD k (l.map fun p => (p.1, g p.2)) = hasD k l
  | [] => rfl
  | (i, y) :: l => by
    show (decide (i = k) || hasD k (l.map fun p => (p.1, g p.2))) = (decide (i = k) || hasD k l)
    rw [hasD_map k l]
theorem putD_map {β γ : Type} {g : β → γ} {k : Int} {y : β} {l : List (Int × β)} : putD (l.map fun p => (p.1, g p.2)) k (g y) = (putD l k y).map fun p => (p.1, g p.2) := by
  unfold putD
  rw [hasD_map]
  split
  · rw [List.map_map, List.map_map]
    refine List.map_congr_left fun p _ => ?_
    simp only [Function.comp]
    split <;> rfl
  · rw [List.map_append]; rfl
theorem hasD_get {β : Type} (k : Int) : ∀ l : List (Int × β), hasD k l = (getD k l).isSome
  | [] => rfl
  | (i, y) :: l => by
    show (decide (i = k) || hasD k l) = (if i = k then some y else getD k l).isSome
    by_cases h : i = k
    · rw [if_pos h, decide_eq_true h]; rfl
    · rw [if_neg h, decide_eq_false h, hasD_get k l]; rfl
theorem getD_put {β : Type} {k j : Int} {y : β} : ∀ {l : List (Int × β)}, getD j (putD l k y) = if j = k then some y else getD j l := fun {l} => by
  have h1 : ∀ l : List (Int × β), getD j (l.map fun p => if p.1 = k then (p.1, y) else p) = if j = k then (getD j l).map (fun _ => y) else getD j l := fun l => by
    induction l with
    | nil => simp [getD]
    | cons p l ih =>
      obtain ⟨i, z⟩ := p
      rw [List.map_cons]
      by_cases h : i = k
      · rw [if_pos h]
        show (if i = j then some y else getD j _) = _
        rw [ih]
        by_cases hj : j = k
        · rw [if_pos hj, if_pos hj, if_pos (h.trans hj.symm)]
          show some y = (if i = j then some z else getD j l).map _
          rw [if_pos (h.trans hj.symm)]; rfl
        · have hij : ¬ i = j := fun e => hj (e.symm.trans h)
          rw [if_neg hj, if_neg hj, if_neg hij]
          show getD j l = if i = j then some z else getD j l
          rw [if_neg hij]
      · rw [if_neg h]
        show (if i = j then some z else getD j _) = _
        rw [ih]
        by_cases hj : j = k
        · have hij : ¬ i = j := fun e => h (e.trans hj)
          rw [if_neg hij, if_pos hj, if_pos hj]
          show _ = (if i = j then some z else getD j l).map _
          rw [if_neg hij]
        · rw [if_neg hj, if_neg hj]
          show _ = if i = j then some z else getD j l
          rfl
  have h2 : ∀ l : List (Int × β), getD j (l ++ [(k, y)]) = (getD j l).or (if k = j then some y else none) := fun l => by
    induction l with
    | nil => rfl
    | cons p l ih =>
      obtain ⟨i, z⟩ := p
      show (if i = j then some z else getD j (l ++ [(k, y)])) = (if i = j then some z else getD j l).or _
      split
      · rfl
      · exact ih
  unfold putD
  split
  · rename_i h
    rw [h1]
    split
    · rename_i e
      subst e
      rw [hasD_get] at h
      cases z : getD j l with
      | none => rw [z] at h; cases h
      | some x => rfl
    · rfl
  · rename_i h
    rw [h2]
    by_cases e : j = k
    · subst e
      have hn : getD j l = none := by
        rw [hasD_get] at h
        cases z : getD j l with
        | none => rfl
        | some x => rw [z] at h; exact absurd rfl h
      rw [hn]; simp
    · rw [if_neg (fun z => e z.symm), if_neg e, Option.or_none]
theorem AllK.get {F : Hp} {k : Int} : ∀ {l : List (Int × As)} {kvs : List (Key × V)}, AllK F l kvs → (∀ R, getD k l = some R → ∃ v, valV kvs (.inl k) = some v ∧ R.p F v) ∧ (getD k l = none → valV kvs (.inl k) = none)
  | [], [], _ => ⟨fun R h => (by cases h), fun _ => rfl⟩
  | (i, R0) :: l, (q, v) :: kvs, ⟨h1, h2, h3⟩ => by
    obtain ⟨g1, g2⟩ := AllK.get (k := k) h3
    subst h1
    by_cases e : i = k
    · subst e
      rw [valV_pos rfl]
      have e2 : getD i ((i, R0) :: l) = some R0 := if_pos rfl
      rw [e2]
      exact ⟨fun R h => by cases h; exact ⟨v, rfl, h2⟩, fun h => by cases h⟩
    · rw [valV_neg (fun z => e (Sum.inl.inj z))]
      have e2 : getD k ((i, R0) :: l) = getD k l := if_neg e
      rw [e2]
      exact ⟨g1, g2⟩
  | [], _ :: _, h => h.elim
  | _ :: _, [], h => h.elim
theorem AllK.has {F : Hp} {k : Int} : ∀ {l : List (Int × As)} {kvs : List (Key × V)}, AllK F l kvs → (kvs.any fun kv => decide (kv.1 = .inl k)) = hasD k l
  | [], [], _ => rfl
  | (i, R0) :: l, (q, v) :: kvs, ⟨h1, h2, h3⟩ => by
    subst h1
    show (decide (Sum.inl i = (Sum.inl k : Key)) || kvs.any _) = (decide (i = k) || hasD k l)
    rw [AllK.has h3]
    congr 1
    exact decide_eq_decide.mpr ⟨fun z => Sum.inl.inj z, fun z => by rw [z]⟩
  | [], _ :: _, h => h.elim
  | _ :: _, [], h => h.elim
theorem AllK.put {F : Hp} {k : Int} {R : As} {v : V} (q : R.p F v) {l : List (Int × As)} {kvs : List (Key × V)} (h : AllK F l kvs) : AllK F (putD l k R) (putK kvs (.inl k) v) := by
  have h1 : ∀ {l : List (Int × As)} {kvs : List (Key × V)}, AllK F l kvs → AllK F (l.map fun p => if p.1 = k then (p.1, R) else p) (kvs.map fun kv => if kv.1 = (.inl k : Key) then (kv.1, v) else kv) := fun {l} => by
    induction l with
    | nil =>
      intro kvs h
      cases kvs with
      | nil => exact trivial
      | cons _ _ => exact h.elim
    | cons p l ih =>
      intro kvs h
      cases kvs with
      | nil => exact h.elim
      | cons kv kvs =>
        obtain ⟨i, R0⟩ := p
        obtain ⟨a, w⟩ := kv
        obtain ⟨a1, a2, a3⟩ := h
        subst a1
        rw [List.map_cons, List.map_cons]
        by_cases e : i = k
        · rw [if_pos e, if_pos (by rw [e])]
          exact ⟨rfl, q, ih a3⟩
        · rw [if_neg e, if_neg (fun z => e (Sum.inl.inj z))]
          exact ⟨rfl, a2, ih a3⟩
  have h2 : ∀ {l : List (Int × As)} {kvs : List (Key × V)}, AllK F l kvs → AllK F (l ++ [(k, R)]) (kvs ++ [(.inl k, v)]) := fun {l} => by
    induction l with
    | nil =>
      intro kvs h
      cases kvs with
      | nil => exact ⟨rfl, q, trivial⟩
      | cons _ _ => exact h.elim
    | cons p l ih =>
      intro kvs h
      cases kvs with
      | nil => exact h.elim
      | cons kv kvs => exact ⟨h.1, h.2.1, ih h.2.2⟩
  unfold putD putK
  rw [h.has]
  split
  · exact h1 h
  · exact h2 h
theorem len_putD {β : Type} (l : List (Int × β)) (k : Int) (y : β) : (putD l k y).length ≤ l.length + 1 := by
  unfold putD
  split
  · rw [List.length_map]; omega
  · rw [List.length_append]; exact Nat.le_refl _
def oD (l : List (Int × As)) : OA := ⟨fun F o => ∃ kvs, o = .dK kvs ∧ AllK F l kvs, fun s h => by
  obtain ⟨kvs, e, q⟩ := h; exact ⟨kvs, e, q.mono s⟩⟩
/-- a dict that stands still -/
def Dc (l : List (Int × As)) : As := ⟨fun F v => ∃ a kvs, v = .ref a ∧ F a = some (.dK kvs) ∧ AllK F l kvs, fun s h => by
  obtain ⟨a, kvs, e, h1, h2⟩ := h; exact ⟨a, kvs, e, s _ _ h1, h2.mono s⟩⟩
section
variable {Z : Bs} {F H F' H' : Hp} {σ σ' : L2.St} {Γ Γ' : Gm} {Ω Ω' Ωr : Om} {K : PySem.W.Frag} {te ta tb tl tk tx : TE} {tt : TT} {R Rx Ry : As} {Rs Ss : List As} {n : L2.St → Hp → Prop} {r : VK} {bk ct : L2.St → Hp → Prop} {p C dx : Addr} {l : List (Int × As)} {f m : Str} {j : Nat} {E : XK} {A : OA}
/-- an expression whose value is a dict -/
def Dk (Γ : Gm) (Ω : Om) (te : TE) (l : List (Int × As)) : Prop := ∀ (Z : Bs) (F H : Hp) (σ : L2.St), Ctx Z F H σ Γ Ω → ∀ Q : VK, (∀ a F' H', Ctx Z F' H' σ Γ Ω → Ext [] F H F' H' → (∀ F2 H2, Ctx Z F2 H2 σ Γ Ω → Same F' F2 → ∃ kvs, H2 a = some (.dK kvs) ∧ AllK F2 l kvs) → Q (.ref a) H') → te σ H Q
theorem dk (h : Ev Γ Ω te (Dc l)) : Dk Γ Ω te l := fun Z F H σ c Q q => h Z F H σ c Q fun v F1 H1 c1 s1 rv => by
  obtain ⟨a, kvs, e, h1, h2⟩ := rv
  subst e
  exact q a F1 H1 c1 s1 fun F2 H2 c2 s2 => ⟨kvs, c2.sub _ _ (s2 _ _ h1), h2.mono s2⟩
theorem dko (h : Ev Γ Ω te (Rf p)) (hm : Ω[j]? = some (p, oD l)) : Dk Γ Ω te l := fun Z F H σ c Q q => h Z F H σ c Q fun v F1 H1 c1 s1 rv => by
  cases rv
  refine q p F1 H1 c1 s1 fun F2 H2 c2 s2 => ?_
  obtain ⟨_, o, h2, kvs, eo, hx⟩ := c2.own _ (List.mem_of_getElem? hm)
  subst eo
  exact ⟨kvs, h2, hx⟩
theorem eo_dnew : EvNw Γ Ω tDNewK (oD []) := fun Z F H σ c Q q p hp => q p F _ (c.grow (A := oD []) hp ⟨[], rfl, trivial⟩) (Ext.newH hp) hp
theorem ev_dget {i : Int} (ha : Dk Γ Ω ta l) (hb : Ev Γ Ω tb (I i)) (h : getD i l = some R) : Ev Γ Ω (tDGet ta tb) R := fun Z F H σ c Q q =>
  ha Z F H σ c _ fun a F1 H1 c1 s1 hd => hb Z F1 H1 σ c1 _ fun y F2 H2 c2 s2 ry => by
    cases ry
    obtain ⟨kvs, h1, h2⟩ := hd F2 H2 c2 s2.fe
    obtain ⟨v, h3, h4⟩ := (h2.get (k := i)).1 R h
    exact ⟨a, v, rfl, h3 ▸ DGet.k (k := .inl i) h1, q v F2 H2 c2 (s1.trans s2) h4⟩
theorem ev_din {i : Int} (hb : Ev Γ Ω tb (I i)) (ha : Dk Γ Ω ta l) : Ev Γ Ω (tDIn tb ta) (B (hasD i l)) := fun Z F H σ c Q q =>
  hb Z F H σ c _ fun y F1 H1 c1 s1 ry => ha Z F1 H1 σ c1 _ fun a F2 H2 c2 s2 hd => by
    cases ry
    obtain ⟨kvs, h1, h2⟩ := hd F2 H2 c2 (Same.refl _)
    refine ⟨a, valV kvs (.inl i), rfl, DGet.k (k := .inl i) h1, q _ F2 H2 c2 (s1.trans s2) ?_⟩
    rw [← valV_any, h2.has]; rfl
theorem ev_dnotin {i : Int} (hb : Ev Γ Ω tb (I i)) (ha : Dk Γ Ω ta l) : Ev Γ Ω (tDNotIn tb ta) (B (!hasD i l)) := fun Z F H σ c Q q =>
  hb Z F H σ c _ fun y F1 H1 c1 s1 ry => ha Z F1 H1 σ c1 _ fun a F2 H2 c2 s2 hd => by
    cases ry
    obtain ⟨kvs, h1, h2⟩ := hd F2 H2 c2 (Same.refl _)
    refine ⟨a, valV kvs (.inl i), rfl, DGet.k (k := .inl i) h1, q _ F2 H2 c2 (s1.trans s2) ?_⟩
    rw [← valV_any, h2.has]; rfl
/-- d.get(i, x) -/
theorem ev_dget2 {i : Int} {S : As} (ha : Dk Γ Ω ta l) (hb : Ev Γ Ω tb (I i)) (hx : Ev Γ Ω tx Rx) (h1 : ∀ R, getD i l = some R → ∀ F v, R.p F v → S.p F v) (h2 : getD i l = none → ∀ F v, Rx.p F v → S.p F v) : Ev Γ Ω (tDGet2 ta tb tx) S := fun Z F H σ c Q q =>
  ha Z F H σ c _ fun a F1 H1 c1 s1 hd => by
    obtain ⟨kvs, g1, g2⟩ := hd F1 H1 c1 (Same.refl _)
    refine ⟨a, rfl, .inl ⟨kvs, .inl g1⟩, hb Z F1 H1 σ c1 _ fun y F2 H2 c2 s2 ry => hx Z F2 H2 σ c2 _ fun x F3 H3 c3 s3 rx => ?_⟩
    cases ry
    obtain ⟨kvs, g1, g2⟩ := hd F3 H3 c3 (s2.trans s3).fe
    refine ⟨valV kvs (.inl i), DGet.k (k := .inl i) g1, q _ F3 H3 c3 (s1.trans (s2.trans s3)) ?_⟩
    cases e : getD i l with
    | none => rw [(g2.get (k := i)).2 e]; exact h2 e _ _ rx
    | some R =>
      obtain ⟨v, e3, e4⟩ := (g2.get (k := i)).1 R e
      rw [e3]; exact h1 R e _ _ e4
/-- d[i] = x, d owned -/
theorem st_dput {i : Int} (c : Ctx Z F H σ Γ Ω) (e : Ev Γ Ω te R) (ha : Ev Γ Ω ta (Rf p)) (hm : Ω[j]? = some (p, oD l)) (hb : Ev Γ Ω tb (I i)) (hl : l.length ≤ 10000000) (k : ∀ F' H', Ctx Z F' H' σ Γ (Ω.set j (p, oD (putD l i R))) → Same F F' → n σ H') (hw : Wr Z p) : sDPut ta tb te ⟨n, r, bk, ct⟩ σ H :=
  e Z F H σ c _ fun v F1 H1 c1 s1 rv => ha Z F1 H1 σ c1 _ fun x F2 H2 c2 s2 rx => hb Z F2 H2 σ c2 _ fun y F3 H3 c3 s3 ry => by
    cases rx
    cases ry
    obtain ⟨_, o, h2, kvs, eo, hx⟩ := c3.own _ (List.mem_of_getElem? hm)
    subst eo
    exact ⟨p, _, rfl, DPut.k (k := .inl i) h2 (by rw [hx.length]; exact Nat.lt_of_le_of_lt hl (by decide)), k F3 _ (c3.chg hm ⟨_, rfl, hx.put (R.mono (s2.trans s3).fe rv)⟩ hw) (s1.trans (s2.trans s3)).fe⟩
/-- a dict of one's own, frozen -/
theorem Ctx.frzD (c : Ctx Z F H σ Γ Ω) (hm : Ω[j]? = some (p, oD l)) (hzp : Z.H p = none) : ∃ F', Same F F' ∧ Ctx Z F' H σ Γ (Ω.eraseIdx j) ∧ (Dc l).p F' (.ref p) := by
  have hmem := List.mem_of_getElem? hm
  have hj : j < Ω.length := (List.getElem?_eq_some_iff.mp hm).1
  obtain ⟨hf, o0, h0, xs, e, hl⟩ := c.own _ hmem
  dsimp only at hf h0
  have s : Same F (upd F p (.dK xs)) := fun a u q => by rw [upd_ne (ne_of_none q hf)]; exact q
  have other : ∀ x ∈ Ω.eraseIdx j, x ∈ Ω ∧ x.1 ≠ p := fun x hx => by
    have hx' := List.mem_of_mem_eraseIdx hx
    refine ⟨hx', fun z => ?_⟩
    obtain ⟨i, hi⟩ := List.getElem?_of_mem hx
    rw [List.getElem?_eraseIdx] at hi
    split at hi
    · have a1 : (Ω.map (·.1))[i]? = some p := by rw [List.getElem?_map, hi, ← z]; rfl
      have a2 : (Ω.map (·.1))[j]? = some p := by rw [List.getElem?_map, hm]; rfl
      have := nd_ix c.nd a1 a2
      omega
    · have a1 : (Ω.map (·.1))[i + 1]? = some p := by rw [List.getElem?_map, hi, ← z]; rfl
      have a2 : (Ω.map (·.1))[j]? = some p := by rw [List.getElem?_map, hm]; rfl
      have := nd_ix c.nd a1 a2
      omega
  refine ⟨upd F p (.dK xs), s, ⟨c.sat.mono s, fun a u q => ?_, fun x hx => ?_, ((List.eraseIdx_sublist Ω j).map _).nodup c.nd, fun x hx => c.loc x (other x hx).1, ⟨c.ext.fe.trans s, c.ext.fr, c.ext.dm, fun a h1 h2 => ?_⟩, c.pin.trans s⟩, p, xs, rfl, upd_same, hl.mono s⟩
  · by_cases z : a = p
    · subst z
      rw [upd_same] at q
      rw [h0, e]
      exact q
    · rw [upd_ne z] at q
      exact c.sub a u q
  · obtain ⟨hx1, hx2⟩ := other x hx
    obtain ⟨h1, o', h2, h3⟩ := c.own x hx1
    exact ⟨by rw [upd_ne hx2]; exact h1, o', h2, x.2.mono s h3⟩
  · have z : a ≠ p := fun z => h1 (by rw [z]; exact hzp)
    rw [upd_ne z]
    exact c.ext.nw a h1 h2
theorem hu_of {k : Nat} {A : Around} (r : Room k A) : A.units + 1 < cLine := by have := r.units; omega
theorem hu65 {k : Nat} {A : Around} (r : Room k A) : A.units + 65 < cLine := by have := r.un; omega
theorem any_kd {α : Type} [DecidableEq α] {f : α → As} {d : α → PyData} {k : Nat} {x : α} (h : Kd K f d k) : ∀ xs : List α, ((xs.map d).any fun z => PyData.eqv z (d x)) = decide (x ∈ xs)
  | [] => by simp
  | y :: xs => by
    rw [List.map_cons, List.any_cons, any_kd h xs]
    by_cases e : y = x
    · have := (h.eq y x).mpr e
      rw [this, e]; simp
    · have : PyData.eqv (d y) (d x) = false := Bool.eq_false_iff.mpr fun z => e ((h.eq y x).mp z)
      rw [this]
      have e2 : ¬ x = y := fun z => e z.symm
      simp [e2]
/-- x in l, x not in l: by data -/
theorem ev_inK {α : Type} [DecidableEq α] {f : α → As} {d : α → PyData} {k : Nat} {x : α} {xs : List α} (h : Kd K f d k) (ha : Ev Γ Ω ta (f x)) (hb : Lk K Γ Ω tb (xs.map f)) (l : k ≤ 63 := by decide) : Ev Γ Ω (tOp (rInD K) ta tb) (B (decide (x ∈ xs))) := fun Z F H σ c Q q =>
  ha Z F H σ c _ fun v F1 H1 c1 s1 rv => hb Z F1 H1 σ c1 _ fun a F2 H2 c2 s2 hs => by
    obtain ⟨ys, hs2, hl⟩ := hs F2 H2 c2 (Same.refl _)
    have d1 : Dp K H2 (.ref a) (.list (xs.map d)) := .lst hs2 (dpall (alld_map h.is xs) c2.sub hl)
    have d2 := (h.is x).dp F2 H2 v c2.sub ((f x).mono s2.fe rv)
    exact ⟨d x, xs.map d, d2, d1, (h.gd x).shaped (Nat.le_succ_of_le l), ((kd_list h).gd xs).shaped (Nat.succ_le_succ l), q _ F2 H2 c2 (s1.trans s2) (by rw [any_kd h]; rfl)⟩
theorem ev_notInK {α : Type} [DecidableEq α] {f : α → As} {d : α → PyData} {k : Nat} {x : α} {xs : List α} (h : Kd K f d k) (ha : Ev Γ Ω ta (f x)) (hb : Lk K Γ Ω tb (xs.map f)) (l : k ≤ 63 := by decide) : Ev Γ Ω (tOp (rNotInD K) ta tb) (B (!decide (x ∈ xs))) := fun Z F H σ c Q q =>
  ha Z F H σ c _ fun v F1 H1 c1 s1 rv => hb Z F1 H1 σ c1 _ fun a F2 H2 c2 s2 hs => by
    obtain ⟨ys, hs2, hl⟩ := hs F2 H2 c2 (Same.refl _)
    have d1 : Dp K H2 (.ref a) (.list (xs.map d)) := .lst hs2 (dpall (alld_map h.is xs) c2.sub hl)
    have d2 := (h.is x).dp F2 H2 v c2.sub ((f x).mono s2.fe rv)
    exact ⟨d x, xs.map d, d2, d1, (h.gd x).shaped (Nat.le_succ_of_le l), ((kd_list h).gd xs).shaped (Nat.succ_le_succ l), q _ F2 H2 c2 (s1.trans s2) (by rw [any_kd h]; rfl)⟩
/-- d.setdefault(k, v) -/
theorem mt_setd {X : Cx} : MtR X "dict.setdefault" rSetd := by
  intro pins s σ H x xs v us Q I rx rv h
  obtain ⟨a, kvs, k, w, ex, rfl, ea, hl, w1, w2⟩ := h
  subst ex
  obtain rfl : v = Value.ref a := rx
  cases rv with
  | cons ry rv =>
    cases rv with
    | cons rd rv =>
      cases rv
      obtain ⟨z, hd, vs0, rel, dd⟩ := dk_of I.hok ea
      have dd2 := dd
      obtain ⟨o, es, ep, eo, exd, hdat, _⟩ := dd2
      have hz : vs0.length ≤ sizeLine := by rw [← rel.length]; exact z
      refine call_meetsIn PySem.F.slot_dict_setdefault dd.typeIs PySem.F.entry_dict_setdefault (PySem.F.args_dict_setdefault_3 _ _ _) (kt_meets_setdefault (mixKind X.prog X.w) _ (kV_is ry) hd _) ⟨vs0, dd, hz, fun u hu => ?_, fun hn h' dd' hs => ?_⟩
      · have rr := rel.val k
        rw [hu] at rr
        cases hv : valV kvs k with
        | none => rw [hv] at rr; exact False.elim rr
        | some y =>
          rw [hv] at rr
          exact (⟨y, H, I.tok _, rr, w1 y hv⟩ : EP X pins σ Q u _)
      · have rr := rel.val k
        rw [hn] at rr
        cases hv : valV kvs k with
        | some y => rw [hv] at rr; exact False.elim rr
        | none =>
          have hl2 : (putK kvs k w).length ≤ sizeLine := by have := length_putK kvs k w; omega
          exact (⟨w, _, d_write (t' := s.toks + 1) I (by rw [ea]; exact True.intro) hs (let ⟨q, _, _, hq, _⟩ := dd'; ⟨q, hq⟩) (dk_new hl2 hd (rel.put k rd) dd'), rd, w2 hv⟩ : EP X pins σ Q _ _)
/-- what stands there, or the new one -/
def setD {β : Type} (l : List (Int × β)) (k : Int) (y : β) : List (Int × β) := if hasD k l then l else l ++ [(k, y)]
theorem setD_map {β γ : Type} {g : β → γ} {k : Int} {y : β} {l : List (Int × β)} : setD (l.map fun p => (p.1, g p.2)) k (g y) = (setD l k y).map fun p => (p.1, g p.2) := by
  unfold setD
  rw [hasD_map]
  split
  · rfl
  · rw [List.map_append]; rfl
theorem setD_put {β : Type} {k : Int} {y : β} {l : List (Int × β)} (h : ¬ hasD k l = true) : setD l k y = putD l k y := by
  unfold setD putD
  rw [if_neg h, if_neg h]
theorem st_setd {i : Int} (c : Ctx Z F H σ Γ Ω) (ha : Ev Γ Ω ta (Rf p)) (hm : Ω[j]? = some (p, oD l)) (hb : Ev Γ Ω tb (I i)) (e : Ev Γ Ω te R) (hl : l.length ≤ 10000000) (k : ∀ F' H', Ctx Z F' H' σ Γ (Ω.set j (p, oD (setD l i R))) → Same F F' → n σ H') (hw : Wr Z p) :
    tDrop (tBM K "dict" rSetd ta (tCons tb (tCons te tNil))) ⟨n, r, bk, ct⟩ σ H :=
  ha Z F H σ c _ fun x F1 H1 c1 s1 rx => by
    cases rx
    obtain ⟨_, o, h2, kvs, eo, hx⟩ := c1.own _ (List.mem_of_getElem? hm)
    refine ⟨.inr (.inr (.inl ⟨rfl, .inl ⟨kvs, by rw [h2, eo]⟩⟩)), hb Z F1 H1 σ c1 _ fun y F2 H2 c2 s2 ry => e Z F2 H2 σ c2 _ fun v F3 H3 c3 s3 rv => ?_⟩
    cases ry
    obtain ⟨_, o, h2, kvs, eo, hx⟩ := c3.own _ (List.mem_of_getElem? hm)
    subst eo
    refine ⟨p, kvs, .inl i, v, rfl, rfl, h2, by rw [hx.length]; exact Nat.lt_of_le_of_lt hl (by decide), fun u hu => ?_, fun hn => ?_⟩
    · have hh : hasD i l = true := by rw [← hx.has, valV_any, hu]; rfl
      have e : setD l i R = l := by unfold setD; rw [if_pos hh]
      have hk := k F3 H3
      rw [e] at hk
      have hs : Ω.set j (p, oD l) = Ω := by
        refine List.ext_getElem? fun q => ?_
        rw [List.getElem?_set]
        split
        · rename_i z
          subst z
          rw [hm]
          split
          · rfl
          · rename_i z2
            exact absurd (List.getElem?_eq_some_iff.mp hm).1 z2
        · rfl
      rw [hs] at hk
      exact hk c3 (s1.trans (s2.trans s3)).fe
    · have hh : ¬ hasD i l = true := by rw [← hx.has, valV_any, hn]; exact Bool.false_ne_true
      have hk := k F3 (upd H3 p (.dK (putK kvs (.inl i) v)))
      rw [setD_put hh] at hk
      exact hk (c3.chg hm ⟨_, rfl, hx.put rv⟩ hw) (s1.trans (s2.trans s3)).fe
end
end Y

namespace Y
open PySem L2 PySem.Spec
open PyProof.Rows (envOfC)
/-! ## list.remove of data -/
theorem remove_loopAt (l : Addr) (items : Array Value) (n : Nat) (x : Value) (eb : Nat → Bool) (j : Nat) (hj : j < items.size) (hit : eb j = true) (hs1 : items.size ≤ sizeLine) : ∀ (k i : Nat), j - i = k → i ≤ j → (∀ m, i ≤ m → m < j → eb m = false) →
    Meets (Builtin.«list.remove.loop» { pos := [Value.ref l, x, rawInt (i : Int)] }) (fun A R s => s.heap.get? l = some { cls := Value.type "list", data := Data.seq items n } ∧ (∀ m (hm : m < items.size), m ≤ j → SeqAt.EqAt A.in1 s items[m] x (eb m)) ∧ R (Except.ok (Flow.ret Value.none)) { heap := s.heap.update l (Obj.mapSeq fun xs => xs.eraseIdxIfInBounds j), gens := s.gens, drawn := s.drawn, toks := s.toks, os := s.os }) := by
  intro k
  induction k with
  | zero =>
    intro i hk hij hno prog w A R s h
    obtain ⟨hl, he, h⟩ := h
    have e : i = j := by omega
    subst e
    have hi : items[((i : Int)).toNat]? = some items[i] := by rw [Int.toNat_natCast]; exact Array.getElem?_eq_getElem hj
    unfold Builtin.«list.remove.loop» rawInt
    dsimp only
    refine wpAny_bind ?_
    unfold Builtin.List.listItems
    refine wpAny_bind ?_
    unfold seqItems?
    dsimp only
    refine wpAny_bind ?_
    refine wpAny_load' hl ?_
    dsimp only
    refine wpAny_pure ?_
    dsimp only
    refine wpAny_pure ?_
    rw [hi]
    dsimp only
    refine wpAny_bind ?_
    refine he i hj (Nat.le_refl _) prog w _ _ ?_
    rw [hit]
    refine wpAny_ite_true rfl ?_
    refine wpAny_bind ?_
    unfold Builtin.List.listUpdate
    dsimp only
    exact wpAny_updateSeq hl rfl (wpAny_pure h) hs1 (Nat.le_trans (MeetsSeq.size_erased _ _) (Nat.le_succ_of_le hs1))
  | succ k ih =>
    intro i hk hij hno prog w A R s h
    obtain ⟨hl, he, h⟩ := h
    have hlt : i < j := by omega
    have hil : i < items.size := by omega
    have hi : items[((i : Int)).toNat]? = some items[i] := by rw [Int.toNat_natCast]; exact Array.getElem?_eq_getElem hil
    unfold Builtin.«list.remove.loop» rawInt
    dsimp only
    refine wpAny_bind ?_
    unfold Builtin.List.listItems
    refine wpAny_bind ?_
    unfold seqItems?
    dsimp only
    refine wpAny_bind ?_
    refine wpAny_load' hl ?_
    dsimp only
    refine wpAny_pure ?_
    dsimp only
    refine wpAny_pure ?_
    rw [hi]
    dsimp only
    refine wpAny_bind ?_
    refine he i hil (Nat.le_of_lt hlt) prog w _ _ ?_
    rw [hno i (Nat.le_refl _) hlt]
    refine wpAny_ite_false rfl ?_
    refine wpAny_pure ?_
    refine ⟨plainId_quiet MeetsSeq.plain_remove_loop _, codeAny_builtin MeetsSeq.entry_remove_loop ?_⟩
    rw [Around.under_plainId MeetsSeq.plain_remove_loop]
    exact ih (i + 1) (by omega) (by omega) (fun m h1 h2 => hno m (by omega) h2) prog w A R s ⟨hl, he, h⟩
theorem list_removeAt (l : Addr) (items : Array Value) (n : Nat) (x : Value) (eb : Nat → Bool) (j : Nat) (hj : j < items.size) (hit : eb j = true) (hno : ∀ m, m < j → eb m = false) (hs1 : items.size ≤ sizeLine) :
    Meets (Builtin.«list.remove» { pos := [Value.ref l, x] }) (fun A R s => s.heap.get? l = some { cls := Value.type "list", data := Data.seq items n } ∧ (∀ m (hm : m < items.size), m ≤ j → SeqAt.EqAt A.in1 s items[m] x (eb m)) ∧ R (Except.ok (Flow.ret Value.none)) { heap := s.heap.update l (Obj.mapSeq fun xs => xs.eraseIdxIfInBounds j), gens := s.gens, drawn := s.drawn, toks := s.toks, os := s.os }) := by
  intro prog w A R s h
  unfold Builtin.«list.remove»
  refine wpAny_bind ?_
  unfold selfAndOne
  refine wpAny_bind ?_
  refine wpAny_ite_true rfl ?_
  refine wpAny_pure ?_
  refine wpAny_pure ?_
  refine wpAny_pure ?_
  refine ⟨plainId_quiet MeetsSeq.plain_remove_loop _, codeAny_builtin MeetsSeq.entry_remove_loop ?_⟩
  rw [Around.under_plainId MeetsSeq.plain_remove_loop]
  exact remove_loopAt l items n x eb j hj hit hs1 (j - 0) 0 rfl (Nat.zero_le j) (fun m _ h2 => hno m h2) prog w A R s h
/-- list.remove(y), by data -/
def rRemD (K : PySem.W.Frag) : V → List V → Hp → VK → Prop := fun x xs H Q => ∃ (l : Addr) (ys : List V) (y : V) (ds : List PyData) (d : PyData) (j : Nat), x = .ref l ∧ xs = [y] ∧ H l = some (.lst ys) ∧ DpAll K H ys ds ∧ Dp K H y d ∧ (∀ e ∈ ds, Gd 60 e) ∧ Gd 60 d ∧ (∃ e, ds[j]? = some e ∧ e.eqv d = true) ∧ (∀ m < j, ∀ e, ds[m]? = some e → e.eqv d = false) ∧ Q .non (upd H l (.lst (ys.eraseIdx j)))
theorem dpall_get {K : PySem.W.Frag} {H : Hp} : ∀ {ys : List V} {ds : List PyData}, DpAll K H ys ds → ys.length = ds.length ∧ ∀ (m : Nat) (y : V) (d : PyData), ys[m]? = some y → ds[m]? = some d → Dp K H y d
  | [], [], _ => ⟨rfl, fun m y d h => by simp at h⟩
  | v :: vs, d :: ds, .cons h1 h2 => by
    obtain ⟨i1, i2⟩ := dpall_get h2
    refine ⟨by rw [List.length_cons, List.length_cons, i1], fun m y e hy he => ?_⟩
    cases m with
    | zero =>
      have a : v = y := Option.some.inj hy
      have b : d = e := Option.some.inj he
      rw [← a, ← b]; exact h1
    | succ m => exact i2 m y e hy he
theorem vals_get : ∀ {xs : List V} {us : List Value}, Vals xs us → ∀ (m : Nat) (x : V), xs[m]? = some x → ∃ u, us[m]? = some u ∧ RelV x u
  | [], [], _, m, x, h => by simp at h
  | x :: xs, u :: us, .cons h1 h2, m, y, h => by
    cases m with
    | zero =>
      have a : x = y := Option.some.inj h
      exact ⟨u, rfl, a ▸ h1⟩
    | succ m => exact vals_get h2 m y h
theorem mt_removeD {X : Cx} (hu : X.A.units + 70 < cLine) : MtM X "list.remove" (rRemD X.K) := by
  intro pins s σ H x xs v us Q I rx rxs h
  obtain ⟨l, ys, y, ds, d, j, ex, exs, hH, hds, hd, sds, sd, ⟨e0, he0, hev⟩, hno, q⟩ := h
  subst ex exs
  obtain rfl : v = Value.ref l := rx
  obtain ⟨u, eu, ru⟩ := Vals.one rxs
  subst eu
  obtain ⟨z, its, n, r, hl, ho⟩ := Inv.lstM I hH
  obtain ⟨hlen, hget⟩ := dpall_get hds
  obtain ⟨bs, r2⟩ := Dp.reads I d y u hd ru
  have hjd := (List.getElem?_eq_some_iff.mp he0).1
  refine call_meets PySem.F.slot_list_remove ⟨_, ho, rfl⟩ PySem.F.entry_list_remove (PySem.F.args_list_remove_2 _ _) (list_removeAt l its.toArray n u (fun m => match ds[m]? with | some e => e.eqv d | none => false) j (by rw [List.size_toArray]; omega) ?_ ?_ (by rw [List.size_toArray]; omega)) ⟨ho, ?_, ?_⟩
  · rw [he0]; exact hev
  · intro m hm
    cases e : ds[m]? with
    | none => rfl
    | some e1 => exact hno m hm e1 e
  · intro m hm hmj
    rw [List.size_toArray] at hm
    have hmy : ys[m]? = some (ys[m]'(by omega)) := List.getElem?_eq_getElem (by omega)
    have hmd : ds[m]? = some (ds[m]'(by omega)) := List.getElem?_eq_getElem (by omega)
    obtain ⟨w, hw1, hw2⟩ := vals_get r m _ hmy
    have hw3 : its[m]'hm = w := by
      rw [List.getElem?_eq_getElem hm] at hw1
      exact Option.some.inj hw1
    obtain ⟨as, r1⟩ := Dp.reads I _ _ w (hget m _ _ hmy hmd) hw2
    rw [hmd]
    show SeqAt.EqAt _ s (its[m]'hm) u _
    rw [hw3]
    have g1 := sds _ (List.mem_of_getElem? hmd)
    refine SeqAt.eqAt_reads _ _ _ _ _ _ _ _ r1 r2 g1.1 sd.1 ?_
    have := g1.2
    show X.A.units + 1 + min _ _ < cLine
    have : min (ds[m]'(by omega)).depth d.depth ≤ 60 := Nat.le_trans (Nat.min_le_left _ _) g1.2
    omega
  · refine ⟨.non, upd H l (.lst (ys.eraseIdx j)), Inv.lset (its' := its.eraseIdx j) I hH ho ?_ (Vals.eraseIdx j r) ?_, rfl, q⟩
    · exact List.eraseIdxIfInBounds_toArray its j
    · have := List.length_eraseIdx_le ys j
      omega
section
variable {Z : Bs} {F H F' H' : Hp} {σ σ' : L2.St} {Γ Γ' : Gm} {Ω Ω' Ωr : Om} {K : PySem.W.Frag} {te ta ti tl : TE} {n : L2.St → Hp → Prop} {r : VK} {bk ct : L2.St → Hp → Prop} {R : As} {Rs : List As} {p : Addr} {j : Nat}
theorem All.erase {F : Hp} : ∀ {Rs : List As} {xs : List V} (k : Nat), All F Rs xs → All F (Rs.eraseIdx k) (xs.eraseIdx k)
  | [], [], _, _ => trivial
  | [], _ :: _, _, h => h.elim
  | _ :: _, [], _, h => h.elim
  | R :: Rs, x :: xs, 0, h => h.2
  | R :: Rs, x :: xs, k + 1, h => ⟨h.1, All.erase k h.2⟩
theorem map_eraseIdx {α β : Type} {f : α → β} : ∀ (l : List α) (k : Nat), (l.map f).eraseIdx k = (l.eraseIdx k).map f
  | [], _ => rfl
  | x :: l, 0 => rfl
  | x :: l, k + 1 => by
    show f x :: (l.map f).eraseIdx k = f x :: (l.eraseIdx k).map f
    rw [map_eraseIdx l k]
/-- x.remove(e), x owned, e the k-th and the first that is like it -/
theorem st_rem {α : Type} {f : α → As} {d : α → PyData} {kk : Nat} {xs : List α} {k0 : Nat} {y : α} (hk : Kd K f d kk) (c : Ctx Z F H σ Γ Ω) (h : Ev Γ Ω ta (Rf p)) (hm : Ω[j]? = some (p, oL (xs.map f))) (e : Ev Γ Ω te (f y)) (h0 : xs[k0]? = some y) (h1 : ∀ m < k0, xs[m]? ≠ some y) (hw : Wr Z p) (k : ∀ F' H', Ctx Z F' H' σ Γ (Ω.set j (p, oL ((xs.eraseIdx k0).map f))) → Same F F' → n σ H') (hkk : kk ≤ 60 := by decide) :
    tDrop (tBM K "list" (rRemD K) ta (tCons te tNil)) ⟨n, r, bk, ct⟩ σ H :=
  h Z F H σ c _ fun v F1 H1 c1 s1 rv => by
    cases rv
    obtain ⟨_, o, h2, zs, eo, hx⟩ := c1.own _ (List.mem_of_getElem? hm)
    refine ⟨.inl ⟨rfl, _, SqL.of (by rw [h2, eo])⟩, ?_⟩
    refine e Z F1 H1 σ c1 _ fun w F2 H2 c2 s2 rw' => ?_
    obtain ⟨_, o, h2, zs, eo, hx⟩ := c2.own _ (List.mem_of_getElem? hm)
    refine ⟨p, zs, w, xs.map d, d y, k0, rfl, rfl, by rw [h2, eo], dpall (alld_map hk.is xs) c2.sub hx, (hk.is y).dp F2 H2 w c2.sub rw', ?_, ?_, ⟨d y, by rw [List.getElem?_map, h0]; rfl, (hk.eq y y).mpr rfl⟩, ?_, ?_⟩
    · intro q hq
      obtain ⟨z, _, ez⟩ := List.mem_map.mp hq
      rw [← ez]
      exact ⟨(hk.gd z).1, Nat.le_trans (hk.gd z).2 hkk⟩
    · exact ⟨(hk.gd y).1, Nat.le_trans (hk.gd y).2 hkk⟩
    · intro m hm2 q hq
      rw [List.getElem?_map] at hq
      obtain ⟨z, hz, ez⟩ := Option.map_eq_some_iff.mp hq
      rw [← ez]
      cases e2 : (d z).eqv (d y) with
      | false => rfl
      | true => exact absurd (by rw [hz, (hk.eq z y).mp e2]) (h1 m hm2)
    · refine k F2 _ (c2.chg hm ⟨_, rfl, ?_⟩ hw) (s1.fe.trans s2.fe)
      rw [← map_eraseIdx]
      exact All.erase k0 hx
end
theorem hu70 {k : Nat} {A : Around} (r : Room k A) : A.units + 70 < cLine := by have := r.un; omega
/-! ## peeks: an owned list read as a frozen one within a whole def -/
def minus (F : Hp) (p : Addr) : Hp := fun a => if a = p then none else F a
def Ind0 (R : As) : Prop := ∀ (F : Hp) (p : Addr) (xs : List V) (v : V), F p = some (.lst xs) → R.p F v → R.p (minus F p) v
theorem ind_c {w : V} : Ind0 (Cst w) := fun _ _ _ _ _ h => h
theorem minus_get {F : Hp} {p a : Addr} {u : HO} (h : F a = some u) (n : a ≠ p) : minus F p a = some u := by
  unfold minus; rw [if_neg n]; exact h
theorem ind_all {F : Hp} {p : Addr} {xs : List V} (hp : F p = some (.lst xs)) : ∀ {Rs : List As} {ys : List V}, (∀ R ∈ Rs, Ind0 R) → All F Rs ys → All (minus F p) Rs ys
  | [], [], _, _ => trivial
  | [], _ :: _, _, h => h.elim
  | _ :: _, [], _, h => h.elim
  | R :: Rs, y :: ys, hi, h => ⟨hi R List.mem_cons_self F p xs y hp h.1, ind_all hp (fun S hS => hi S (List.mem_cons_of_mem _ hS)) h.2⟩
theorem ind_tp {K : PySem.W.Frag} {Rs : List As} (hi : ∀ R ∈ Rs, Ind0 R) : Ind0 (Tp K Rs) := fun F p xs v hp h => by
  obtain ⟨a, ys, ea, hs, hl⟩ := h
  refine ⟨a, ys, ea, ?_, ind_all hp hi hl⟩
  rcases hs with z | z
  · refine .inl ?_
    have hne : a ≠ p := fun w => by
      rw [w] at z
      rcases z with z | ⟨_, z⟩ <;> (rw [hp] at z; cases z)
    rcases z with z | ⟨ob, z⟩
    · exact .inl (minus_get z hne)
    · exact .inr ⟨ob, minus_get z hne⟩
  · exact .inr z
theorem ind_fr {K : PySem.W.Frag} {q : Int × Int} : Ind0 (Fr K q) := ind_tp fun R hR => by
  rcases List.mem_cons.mp hR with z | hR
  · rw [z]; exact ind_c
  rw [List.mem_singleton.mp hR]; exact ind_c
theorem ind_fq {K : PySem.W.Frag} {q : Rat} : Ind0 (Fq K q) := ind_fr
theorem ind_op {α : Type} {R : α → As} {o : Option α} (h : ∀ x, Ind0 (R x)) : Ind0 (Op R o) := by
  cases o with
  | none => exact ind_c
  | some x => exact h x
/-- within a def that changes nothing: an owned list seen as a frozen one -/
theorem peek_own {K : PySem.W.Frag} {F H : Hp} {q : Addr} {Rs : List As} {R : As} {Q : VK} (s : Same F H) (o : Own F H [(q, oL Rs)]) (hi : Ind0 R) (hq : ∀ v F' H', Ext [] F H F' H' → Same F' H' → R.p F' v → Q v H') :
    ∃ F1, Same F F1 ∧ Same F1 H ∧ (Ls K Rs).p F1 (.ref q) ∧ (∀ x : Addr × OA, x.1 ≠ q → Own F H [x] → Own F1 H [x]) ∧ ∀ v F' H', Ext [] F1 H F' H' → Same F' H' → R.p F' v → Q v H' := by
  obtain ⟨h1, ob, h2, xs, eo, hx⟩ := o _ List.mem_cons_self
  subst eo
  dsimp only at h1 h2
  have s1 : Same F (upd F q (.lst xs)) := fun a u z => by rw [upd_ne (ne_of_none z h1)]; exact z
  refine ⟨upd F q (.lst xs), s1, fun a u z => ?_, ⟨q, xs, rfl, SqL.of upd_same, hx.mono s1⟩, fun x hne hx y hy => ?_, fun v F' H' ex s' hr => ?_⟩
  · by_cases e : a = q
    · rw [e] at z ⊢; rw [upd_same] at z; rw [← z]; exact h2
    · rw [upd_ne e] at z; exact s a u z
  · rw [List.mem_singleton.mp hy]
    obtain ⟨k1, o', k2, k3⟩ := hx _ List.mem_cons_self
    exact ⟨by rw [upd_ne hne]; exact k1, o', k2, x.2.mono s1 k3⟩
  · have hFp : F' q = some (.lst xs) := ex.fe q _ upd_same
    refine hq v (minus F' q) H' ⟨fun a u z => minus_get (ex.fe a u (s1 a u z)) (ne_of_none z h1), ex.fr, ex.dm, fun a hne hF => ?_⟩ (fun a u z => ?_) (hi F' q xs v hFp hr)
    · unfold minus
      by_cases w : a = q
      · rw [if_pos w]
      · rw [if_neg w]
        exact ex.nw a hne (by rw [upd_ne w]; exact hF)
    · unfold minus at z
      by_cases w : a = q
      · rw [if_pos w] at z; cases z
      · rw [if_neg w] at z; exact s' a u z
/-! ## a field that takes a new object -/
section
variable {Z : Bs} {F H F' H' : Hp} {σ σ' : L2.St} {Γ Γ' : Gm} {Ω Ω' Ωr : Om} {K : PySem.W.Frag} {te ta ti tl : TE} {n : L2.St → Hp → Prop} {r : VK} {bk ct : L2.St → Hp → Prop} {R : As} {Rs : List As} {p C D dx0 : Addr} {j : Nat} {E : XK} {f : Str} {fs : List (Str × As)}
theorem st_fldMake {α β : Type} {args : α → Addr → List As} {Oi : α × Addr × Addr → Om} {Oo : α × Addr × Addr → β → Om} {pre : α × Addr × Addr → Prop} {post : α × Addr × Addr → β → Prop} {res : α × Addr × Addr → β → As} {t : TA} (a : α) (c : Ctx Z F H σ Γ Ω) (h : EvA Γ Ω t Rs) (ha : ∀ x, args a x = Rf x :: Rs) (hoi : ∀ x dx, Oi (a, x, dx) = [(x, oI C dx [])]) (hp : ∀ x dx, pre (a, x, dx)) (hr : ∀ x dx b F v, (res (a, x, dx) b).p F v → v = .non)
    (hs : ∀ Ω2, Ev Γ Ω2 ta (Rf p)) (hm : ∀ b x dx, (Oo (a, x, dx) b ++ Ω)[j]? = some (p, oI D dx0 fs)) (hc : Cls K D) (hn : NoAttr K D f) (hl : fs.length < 1000) (hw : Wr Z p)
    (k : ∀ b x dx F' H', post (a, x, dx) b → Ctx Z F' H' σ Γ ((Oo (a, x, dx) b ++ Ω).set j (p, oI D dx0 (putA f (Rf x) fs))) → Same F F' → (∀ y ∈ (Oo (a, x, dx) b).map (·.1), Z.H y = none) → n σ H') : sFld K ta (tMake C (CtG (fun b : α × Addr × Addr => args b.1 b.2.1) Oi pre post res Oo) [] E t) f ⟨n, r, bk, ct⟩ σ H :=
  st_makeG a c h ha hoi hp hr fun b x dx F1 H1 hb c1 s1 hz => hs _ Z F1 H1 σ c1 _ fun y F2 H2 c2 s2 ry => by
    cases ry
    obtain ⟨_, o, h2, vs, eo, hav⟩ := c2.own _ (List.mem_of_getElem? (hm b x dx))
    subst eo
    refine ⟨p, D, dx0, vs, rfl, h2, hc, hn, by rw [hav.length]; exact hl, ?_⟩
    exact k b x dx F2 _ hb (c2.chg (hm b x dx) ⟨_, rfl, hav.put rfl⟩ hw) (s1.trans s2.fe) hz
/-- a display, owned -/
theorem eo_lst0 : EvNw Γ Ω (tLst tNil) (oL []) := fun Z F H σ c Q q => ⟨by decide, fun p hp => q p F _ (c.grow (A := oL []) hp ⟨[], rfl, trivial⟩) (Ext.newH hp) hp⟩
/-- dict(d), d a frozen dict -/
theorem eo_dictC {l : List (Int × As)} (ha : Ev Γ Ω ta (Dc l)) : EvNw Γ Ω (tCB (fun xs H Q => ∃ (a : Addr) (kvs : List (Key × V)), xs = [.ref a] ∧ Rd H a (.dK kvs) ∧ ∀ p, H p = none → Q (.ref p) (upd H p (.dK kvs))) (tCons ta tNil)) (oD l) := fun Z F H σ c Q q =>
  ha Z F H σ c _ fun v F1 H1 c1 s1 rv => by
    obtain ⟨a, kvs, e, h1, h2⟩ := rv
    subst e
    exact ⟨a, kvs, rfl, .inl (c1.sub _ _ h1), fun p hp => q p F1 _ (c1.grow (A := oD l) hp ⟨kvs, rfl, h2⟩) (s1.trans (Ext.newH hp)) (s1.dm _ hp)⟩
theorem all_get {F : Hp} : ∀ {Rs : List As} {xs : List V} {k0 : Nat} {R0 : As}, All F Rs xs → Rs[k0]? = some R0 → ∃ y, xs[k0]? = some y ∧ R0.p F y
  | [], _, _, _, _, h => by simp at h
  | _ :: _, [], _, _, h, _ => h.elim
  | S :: Rs, x :: xs, 0, R0, ha, hk => ⟨x, rfl, by have e : S = R0 := Option.some.inj hk; rw [← e]; exact ha.1⟩
  | S :: Rs, x :: xs, k0 + 1, R0, ha, hk => all_get (k0 := k0) ha.2 hk
/-- x.pop(i), x owned; what was there -/
theorem em_popAt {i : Int} {k0 : Nat} {R0 : As} (h : Ev Γ Ω ta (Rf p)) (hm : Ω[j]? = some (p, oL Rs)) (ei : Ev Γ Ω ti (I i)) (hi0 : -(2 ^ 63) ≤ i) (hi1 : i < 2 ^ 63) (hk : seqIndex? i Rs.length = some k0) (hR : Rs[k0]? = some R0) (hw : Wr Z p) : EvM Z Γ Ω (tBM K "list" rPopAt ta (tCons ti tNil)) R0 (Ω.set j (p, oL (Rs.eraseIdx k0))) := fun F H σ c Q q =>
  h Z F H σ c _ fun v F1 H1 c1 s1 rv => by
    cases rv
    obtain ⟨_, o, h2, xs, eo, hx⟩ := c1.own _ (List.mem_of_getElem? hm)
    refine ⟨.inl ⟨rfl, _, SqL.of (by rw [h2, eo])⟩, ?_⟩
    refine ei Z F1 H1 σ c1 _ fun y F2 H2 c2 s2 ry => ?_
    cases ry
    obtain ⟨_, o, h2, xs, eo, hx⟩ := c2.own _ (List.mem_of_getElem? hm)
    have hkl := (List.getElem?_eq_some_iff.mp hR).1
    have hxl := hx.length
    obtain ⟨y, hy, ry⟩ := all_get hx hR
    refine ⟨p, xs, i, k0, y, rfl, rfl, by rw [h2, eo], hi0, hi1, by rw [hxl]; exact hk, hy, ?_⟩
    exact q y F2 _ (c2.chg hm ⟨_, rfl, All.erase k0 hx⟩ hw) (s1.fe.trans s2.fe) ry
/-- d[i] = e, e changes what is owned (but not d) -/
theorem em_dput {i : Int} {l : List (Int × As)} {tb : TE} (c : Ctx Z F H σ Γ Ω) (e : EvM Z Γ Ω te R Ω') (ha : Ev Γ Ω' ta (Rf p)) (hm : Ω'[j]? = some (p, oD l)) (hb : Ev Γ Ω' tb (I i)) (hl : l.length ≤ 10000000) (k : ∀ F' H', Ctx Z F' H' σ Γ (Ω'.set j (p, oD (putD l i R))) → Same F F' → n σ H') (hw : Wr Z p) : sDPut ta tb te ⟨n, r, bk, ct⟩ σ H :=
  e F H σ c _ fun v F1 H1 c1 s1 rv => ha Z F1 H1 σ c1 _ fun x F2 H2 c2 s2 rx => hb Z F2 H2 σ c2 _ fun y F3 H3 c3 s3 ry => by
    cases rx
    cases ry
    obtain ⟨_, o, h2, kvs, eo, hx⟩ := c3.own _ (List.mem_of_getElem? hm)
    subst eo
    exact ⟨p, _, rfl, DPut.k (k := .inl i) h2 (by rw [hx.length]; exact Nat.lt_of_le_of_lt hl (by decide)), k F3 _ (c3.chg hm ⟨_, rfl, hx.put (R.mono (s2.trans s3).fe rv)⟩ hw) (s1.trans (s2.trans s3).fe)⟩
end
/-! ## a def with one default that is None, given all its arguments -/
structure TxF (K : PySem.W.Frag) (mg : Str → Option Value) (x : Str) (st : Stmt) (ps : List Str) : Prop where
  ex : ∃ f fd, FunD K x x (defArgs st) (defBody st) (defScope st) [.non] [] f fd ∧ mg x = some (.ref f) ∧ Binds K fd ps []
section
variable {P : Program} {w : World} {K : PySem.W.Frag} {mg : Str → Option Value} {base : Heap}
theorem TxF.ok {x : Str} {st : Stmt} {N ps : List Str} {k : Nat} {sp : Sp} (T : TxF K mg x st ps) (S : FnScope N ps (defScope st)) (len : ∀ vs H Q E, sp vs H Q E → vs.length = ps.length)
    (hbody : ∀ (f : Addr) (cdv : Value) (A : Around) (outer : List Env) (s : Shared) (H : Hp) (vs : List V) (Q : VK) (E : XK), Room k (A.deeper (envOfC x (defScope st) s.heap.objs.size f cdv)) → sp vs H Q E →
      ∃ t, PSs (cxOf CX0 P w K mg base N x (defScope st) f cdv A outer s H E).nox (defBody st) t ∧ t { nx := fun _ H' => Q .non H', rt := Q } (L2.start N vs) H) : Dn P w K mg base (k + 1) x ps sp := by
  obtain ⟨f, fd, F, m, b⟩ := T.ex
  have F' := F
  obtain ⟨oc, od, d0, kV, doc, pm, an, cdv, ct, osl, e, lk, _⟩ := F.ex
  refine ⟨f, fd, m, F'.kp, b, ⟨oc, od, osl, by subst e; exact lk⟩, FnOk_x (F'.ok (CX := CX0) S len fun cdv A outer s H vs Q E hr hsp => ?_)⟩
  obtain ⟨t, h, q⟩ := hbody f cdv A outer s H vs Q E hr hsp
  exact ⟨t, h.nox, q⟩
theorem tx_mkf {x : Str} {st : Stmt} {f T : Addr} {o1 : Value} {o2 : Option Addr} {o4 : Array (Option Value)} {nn : Nat} {oc : Value} {od an : Option Addr} {osl : Array (Option Value)} {kV doc pm cdv ct : Value} {ps : List Str} {h : Heap} (X : K.In h) (G : h.Ns mainGlobals mg)
    (a : PySem.W.nsIn K mainGlobals x = some (some (.ref f)))
    (l : K.lookup f = some ⟨oc, od, .func (PySem.W.fnOf x x (defArgs st) (defBody st) (defScope st) (.ref T) kV doc pm an cdv ct), osl⟩)
    (c : PySem.W.codeIn K cdv x = true) (kk : PySem.W.keepIn K (.ref f) = true) (lT : K.lookup T = some ⟨o1, o2, .seq #[.none] nn, o4⟩)
    (hb : ∀ (T : Addr) (kV doc pm : Value) (an : Option Addr) (cdv ct : Value) (us its : List Value), us.length = ps.length → its.length = 1 →
      ∃ k, bindArgs (PySem.W.fnOf x x (defArgs st) (defBody st) (defScope st) (.ref T) kV doc pm an cdv ct) ⟨us, []⟩ = seqItems? (.ref T) >>= k ∧ k (some its.toArray) = pure (ps.zip (us ++ its.drop 1))) : TxF K mg x st ps := by
  have F : FunD K x x (defArgs st) (defBody st) (defScope st) [.non] [] f (PySem.W.fnOf x x (defArgs st) (defBody st) (defScope st) (.ref T) kV doc pm an cdv ct) :=
    ⟨⟨oc, od, .ref T, kV, doc, pm, an, cdv, ct, osl, rfl, l, c, .inr ⟨(fun z => by cases z), T, _, [.none], nn, rfl, lT, rfl, .cons rfl .nil⟩, .inl rfl⟩, kk⟩
  obtain ⟨ds, hv, b⟩ := F.binds1 (ps := ps) ps.length 1 (fun z => by cases z) rfl hb
  have e : ds = [] := by cases hv; rfl
  rw [e] at b
  exact ⟨f, _, F, PySem.W.mg_of X G a, b⟩
end
end Y

namespace Y
open PySem L2 PySem.Spec
open PyProof.Rows (envOfC)
/-! ## sorted(xs), ints; list(range(n)) -/
section
variable {Z : Bs} {F H F' H' : Hp} {σ σ' : L2.St} {Γ Γ' : Gm} {Ω Ω' Ωr : Om} {K : PySem.W.Frag} {te ta ti tl : TE} {n : L2.St → Hp → Prop} {r : VK} {bk ct : L2.St → Hp → Prop} {R : As} {Rs : List As} {p : Addr} {i j : Nat}
theorem ints_eq {a b : List Int} (h : a.Perm b) (h1 : a.Pairwise (· ≤ ·)) (h2 : b.Pairwise (· ≤ ·)) : a = b := List.Perm.eq_of_pairwise (fun x y _ _ h h' => Int.le_antisymm h h') h1 h2 h
theorem allI {F : Hp} : ∀ ns : List Int, All F (ns.map fun n => I n) (ns.map V.int)
  | [] => trivial
  | _ :: ns => ⟨rfl, allI ns⟩
theorem eo_sorted {α : Type} {xs : List α} {g : α → Int} {ns : List Int} {ta : TA} (ha : EvA Γ Ω ta [Ls K (xs.map fun x => I (g x))]) (h1 : ns.Perm (xs.map g)) (h2 : ns.Pairwise (· ≤ ·)) : EvNw Γ Ω (tCB (rSortedI K) ta) (oL (ns.map fun n => I n)) := fun Z F H σ c Q q =>
  ha Z F H σ c _ fun vs F1 H1 c1 s1 rs => by
    obtain ⟨v, rfl, a, ys, e, hs, hl⟩ := rs.one
    cases e
    have z := all_map hl
    subst z
    refine ⟨a, xs.map g, rfl, c1.sub.seq hs, fun ns' p hp hw hn => ?_⟩
    have e : ns' = ns := ints_eq (hp.trans h1.symm) hw h2
    subst e
    exact q p F1 _ (c1.grow (A := oL (ns'.map fun n => I n)) hn ⟨_, rfl, allI ns'⟩) (s1.trans (Ext.newH hn)) (s1.dm _ hn)
theorem eo_listRg {n : Int} {ta : TE} (ha : Ev Γ Ω ta (I n)) (h0 : 0 ≤ n) (h1 : n ≤ 16777216) : EvNw Γ Ω (tLstRg (tRg1 ta)) (oL ((List.range n.toNat).map fun k : Nat => I (k : Int))) := fun Z F H σ c Q q =>
  ha Z F H σ c _ fun v F1 H1 c1 s1 rv => by
    have rv : v = .int n := rv
    subst rv
    refine ⟨n, rfl, RgOk.of_le (Int.le_refl _) h1 (by decide) h0, fun p hp => ?_⟩
    refine q p F1 _ (c1.grow (A := oL ((List.range n.toNat).map fun k : Nat => I (k : Int))) hp ⟨_, rfl, ?_⟩) (s1.trans (Ext.newH hp)) (s1.dm _ hp)
    unfold rgV
    rw [Int.sub_zero]
    have : ∀ l : List Nat, All F1 (l.map fun k : Nat => I (k : Int)) (l.map fun i : Nat => V.int (0 + (i : Int))) := fun l => by
      induction l with
      | nil => exact trivial
      | cons x l ih => exact ⟨by show V.int (0 + (x : Int)) = V.int (x : Int); rw [Int.zero_add], ih⟩
    exact this _
theorem rc_minL {α : Type} {xs : List α} {g : α → Int} {m : Int} (h1 : m ∈ xs.map g) (h2 : ∀ y ∈ xs.map g, m ≤ y) : RC (rMin K) [Ls K (xs.map fun x => I (g x))] (I m) := fun F H vs s h Q q => by
  obtain ⟨v, rfl, a, ys, e, hs, hl⟩ := h.one
  cases e
  have z := all_map hl
  subst z
  refine ⟨a, xs.map g, rfl, s.seq hs, List.length_pos_of_mem h1, fun m' k1 k2 => ?_⟩
  have : m' = m := Int.le_antisymm (k2 m h1) (h2 m' k1)
  subst this
  exact q _ F H (Ext.refl _ _ _) s rfl
end
/-! ## a def with one default that is None, called with or without -/
structure TxG (K : PySem.W.Frag) (mg : Str → Option Value) (x : Str) (st : Stmt) (ps : List Str) : Prop where
  ex : ∃ f fd ds, FunD K x x (defArgs st) (defBody st) (defScope st) [.non] [] f fd ∧ mg x = some (.ref f) ∧ Binds K fd ps [] ∧ Vals [V.non] ds ∧ Binds K fd ps ds
structure DnG (P : Program) (w : World) (K : PySem.W.Frag) (mg : Str → Option Value) (base : Heap) (k : Nat) (x : Str) (ps : List Str) (sp : Sp) : Prop where
  dn : Dn P w K mg base k x ps sp
  ex : ∃ f fd ds, mg x = some (.ref f) ∧ PySem.W.keepIn K (.ref f) = true ∧ Vals [V.non] ds ∧ Binds K fd ps ds ∧ FnOk P w K mg base (L2N.CX P w) k f fd ps sp
section
variable {P : Program} {w : World} {K : PySem.W.Frag} {mg : Str → Option Value} {base : Heap}
theorem TxG.ok {x : Str} {st : Stmt} {N ps : List Str} {k : Nat} {sp : Sp} (T : TxG K mg x st ps) (S : FnScope N ps (defScope st)) (len : ∀ vs H Q E, sp vs H Q E → vs.length = ps.length)
    (hbody : ∀ (f : Addr) (cdv : Value) (A : Around) (outer : List Env) (s : Shared) (H : Hp) (vs : List V) (Q : VK) (E : XK), Room k (A.deeper (envOfC x (defScope st) s.heap.objs.size f cdv)) → sp vs H Q E →
      ∃ t, PSs (cxOf CX0 P w K mg base N x (defScope st) f cdv A outer s H E).nox (defBody st) t ∧ t { nx := fun _ H' => Q .non H', rt := Q } (L2.start N vs) H) : DnG P w K mg base (k + 1) x ps sp := by
  obtain ⟨f, fd, ds, F, m, b, hv, b1⟩ := T.ex
  have F' := F
  obtain ⟨oc, od, d0, kV, doc, pm, an, cdv, ct, osl, e, lk, _⟩ := F.ex
  have fn : FnOk P w K mg base (L2N.CX P w) (k + 1) f fd ps sp := FnOk_x (F'.ok (CX := CX0) S len fun cdv A outer s H vs Q E hr hsp => by
    obtain ⟨t, h, q⟩ := hbody f cdv A outer s H vs Q E hr hsp
    exact ⟨t, h.nox, q⟩)
  exact ⟨⟨f, fd, m, F'.kp, b, ⟨oc, od, osl, by subst e; exact lk⟩, fn⟩, ⟨f, fd, ds, m, F'.kp, hv, b1, fn⟩⟩
theorem tx_mkG {x : Str} {st : Stmt} {f T : Addr} {o1 : Value} {o2 : Option Addr} {o4 : Array (Option Value)} {nn : Nat} {oc : Value} {od an : Option Addr} {osl : Array (Option Value)} {kV doc pm cdv ct : Value} {ps : List Str} {h : Heap} (X : K.In h) (G : h.Ns mainGlobals mg)
    (a : PySem.W.nsIn K mainGlobals x = some (some (.ref f)))
    (l : K.lookup f = some ⟨oc, od, .func (PySem.W.fnOf x x (defArgs st) (defBody st) (defScope st) (.ref T) kV doc pm an cdv ct), osl⟩)
    (c : PySem.W.codeIn K cdv x = true) (kk : PySem.W.keepIn K (.ref f) = true) (lT : K.lookup T = some ⟨o1, o2, .seq #[.none] nn, o4⟩)
    (hb : ∀ (T : Addr) (kV doc pm : Value) (an : Option Addr) (cdv ct : Value) (us its : List Value), us.length = ps.length → its.length = 1 →
      ∃ k, bindArgs (PySem.W.fnOf x x (defArgs st) (defBody st) (defScope st) (.ref T) kV doc pm an cdv ct) ⟨us, []⟩ = seqItems? (.ref T) >>= k ∧ k (some its.toArray) = pure (ps.zip (us ++ its.drop 1)))
    {m : Nat} (hm : m + 1 = ps.length)
    (hb1 : ∀ (T : Addr) (kV doc pm : Value) (an : Option Addr) (cdv ct : Value) (us its : List Value), us.length = m → its.length = 1 →
      ∃ k, bindArgs (PySem.W.fnOf x x (defArgs st) (defBody st) (defScope st) (.ref T) kV doc pm an cdv ct) ⟨us, []⟩ = seqItems? (.ref T) >>= k ∧ k (some its.toArray) = pure (ps.zip (us ++ its.drop 0))) : TxG K mg x st ps := by
  have F : FunD K x x (defArgs st) (defBody st) (defScope st) [.non] [] f (PySem.W.fnOf x x (defArgs st) (defBody st) (defScope st) (.ref T) kV doc pm an cdv ct) :=
    ⟨⟨oc, od, .ref T, kV, doc, pm, an, cdv, ct, osl, rfl, l, c, .inr ⟨(fun z => by cases z), T, _, [.none], nn, rfl, lT, rfl, .cons rfl .nil⟩, .inl rfl⟩, kk⟩
  obtain ⟨ds, hv, b⟩ := F.binds1 (ps := ps) ps.length 1 (fun z => by cases z) rfl hb
  have e : ds = [] := by cases hv; rfl
  rw [e] at b
  obtain ⟨ds1, hv1, b1⟩ := F.binds1 (ps := ps) m 0 (fun z => by cases z) hm hb1
  exact ⟨f, _, ds1, F, PySem.W.mg_of X G a, b, hv1, b1⟩
end
section
variable {X : Cx} {k : Nat} {ps : List Str} {sp : Sp} {x : Str} {p pos : Pos} {e : Expr} {es : List Expr} {t : TA}
/-- a call that leaves the default out -/
theorem pe_dG (D : DnG X.prog X.w X.K X.mg X.base k x ps sp) (hr : Room k X.A) (hg : Gl X x) (ha : PA X (e :: es) t) (hdb : (x == ("__debug__" : Str)) = false := by decide)
    (he : starEach (e :: es) X.env = (false, eval e X.env) :: starEach es X.env := by rfl) (hpl : (backTo pos (starEach es X.env)).any (·.1) = false := by rfl) :
    PE X (.Call (.Name x p) (e :: es) [] pos) (tCall sp [.non] E0 t) := by
  obtain ⟨f, fd, ds, m, kp, hv, b, G⟩ := D.ex
  exact pe_call G hr hg m kp b hv passL ha hdb he hpl
end
/-! ## a def that hands out several new things -/
section
variable {Z : Bs} {F H F' H' : Hp} {σ σ' : L2.St} {Γ Γ' : Gm} {Ω Ω' Ωr : Om} {K : PySem.W.Frag} {n : L2.St → Hp → Prop} {r : VK} {bk ct : L2.St → Hp → Prop} {Rs : List As} {i : Nat}
theorem st_callG {α β : Type} {args : α → List As} {pre : α → Prop} {post : α → β → Prop} {res : α → β → As} {Oo : α → β → Om} {t : TA} {dvs : List V} (a : α) (c : Ctx Z F H σ Γ Ω) (h : EvA Γ Ω t Rs) (ha : ∀ F vs, All F Rs vs → All F (args a) (vs ++ dvs)) (hp : pre a)
    (k : ∀ b F' H' σ', post a b → Ctx Z F' H' σ' (Γ.set i (some (res a b))) (Oo a b ++ Ω) → Same F F' → (∀ y ∈ (Oo a b).map (·.1), Z.H y = none) → n σ' H') : tAsg (tCall (CtG args (fun _ => []) pre post res Oo) dvs E0 t) (gName i) ⟨n, r, bk, ct⟩ σ H :=
  h Z F H σ c _ fun vs F1 H1 c1 s1 rs => by
    refine ⟨a, F1, c1.sub, ha _ _ rs, fun y hy => absurd hy List.not_mem_nil, List.nodup_nil, hp, fun b v F3 H3 hb e3 s3 rv ow nd hn => ?_⟩
    have c3 := c1.changedG (Ωi := []) (Ωo := Oo a b) (Ωr := Ω) e3 s3 ow nd hn (fun y hy => absurd hy List.not_mem_nil)
    refine k b F3 H3 _ hb (c3.set i rv) (s1.fe.trans e3.fe) fun y hy => ?_
    rcases hn y hy with l | l
    · exact absurd l List.not_mem_nil
    · exact c1.ext.dm _ l
end
/-! ## an owned list read as a frozen one, wherever its name stands -/
section
variable {Γ Γ' : Gm} {Ω : Om} {K : PySem.W.Frag} {te : TE} {tt : TT} {Rs : List As}
theorem ev_peekS {p : Addr} {j : Nat} {w : V} (hm : Ω[j]? = some (p, oL Rs)) (hg : ∀ (F : Hp) (σ : L2.St), Sat F Γ σ → (Ls K Rs).p F (.ref p) → Sat F Γ' σ) (h : Ev Γ' (Ω.eraseIdx j) te (Cst w)) : Ev Γ Ω te (Cst w) := fun Z F H σ c Q q => by
  obtain ⟨h1, o, h2, xs, eo, hx⟩ := c.own _ (List.mem_of_getElem? hm)
  subst eo
  dsimp only at h1 h2
  have s : Same F (upd F p (.lst xs)) := fun a u z => by rw [upd_ne (ne_of_none z h1)]; exact z
  have hsub : Same (upd F p (.lst xs)) H := fun a u z => by
    by_cases e : a = p
    · rw [e] at z ⊢; rw [upd_same] at z; rw [← z]; exact h2
    · rw [upd_ne e] at z; exact c.sub a u z
  have other : ∀ x ∈ Ω.eraseIdx j, x ∈ Ω ∧ x.1 ≠ p := fun x hx => by
    have hx' := List.mem_of_mem_eraseIdx hx
    refine ⟨hx', fun z => ?_⟩
    obtain ⟨k, hk⟩ := List.getElem?_of_mem hx
    rw [List.getElem?_eraseIdx] at hk
    split at hk
    · have a1 : (Ω.map (·.1))[k]? = some p := by rw [List.getElem?_map, hk, ← z]; rfl
      have a2 : (Ω.map (·.1))[j]? = some p := by rw [List.getElem?_map, hm]; rfl
      have := nd_ix c.nd a1 a2
      omega
    · have a1 : (Ω.map (·.1))[k + 1]? = some p := by rw [List.getElem?_map, hk, ← z]; rfl
      have a2 : (Ω.map (·.1))[j]? = some p := by rw [List.getElem?_map, hm]; rfl
      have := nd_ix c.nd a1 a2
      omega
  have c1 : Ctx ⟨upd F p (.lst xs), H, [], upd F p (.lst xs), (Ω.eraseIdx j).map (·.1)⟩ (upd F p (.lst xs)) H σ Γ' (Ω.eraseIdx j) := by
    refine ⟨?_, hsub, fun x hx => ?_, ((List.eraseIdx_sublist Ω j).map _).nodup c.nd, fun x hx => .inr (.inr (List.mem_map.mpr ⟨x, hx, rfl⟩)), Ext.refl _ _ _, Same.refl _⟩
    · exact hg _ _ (c.sat.mono s) ⟨p, xs, rfl, SqL.of upd_same, hx.mono s⟩
    · obtain ⟨hx1, hx2⟩ := other x hx
      obtain ⟨k1, o', k2, k3⟩ := c.own x hx1
      exact ⟨by rw [upd_ne hx2]; exact k1, o', k2, x.2.mono s k3⟩
  refine h _ _ _ σ c1 Q fun v F3 H3 c3 e3 rv => ?_
  have e : Ext [] F H (fun b => if b = p then none else F3 b) H3 := by
    refine ⟨fun a u z => ?_, e3.fr, e3.dm, fun a g1 g2 => ?_⟩
    · show (if a = p then none else F3 a) = some u
      rw [if_neg (ne_of_none z h1)]
      exact e3.fe a u (s a u z)
    · show (if a = p then none else F3 a) = none
      by_cases z : a = p
      · rw [if_pos z]
      · rw [if_neg z]
        exact e3.nw a g1 (by rw [upd_ne z]; exact g2)
  have s' : Same (fun b => if b = p then none else F3 b) H3 := fun a u z => by
    by_cases w : a = p
    · have z : (if a = p then none else F3 a) = some u := z
      rw [if_pos w] at z; cases z
    · have z : (if a = p then none else F3 a) = some u := z
      rw [if_neg w] at z; exact c3.sub a u z
  exact q v _ H3 (c.step e s') e rv
theorem et_peekS {p : Addr} {j : Nat} {b : Bool} (hm : Ω[j]? = some (p, oL Rs)) (hg : ∀ (F : Hp) (σ : L2.St), Sat F Γ σ → (Ls K Rs).p F (.ref p) → Sat F Γ' σ) (h : EvT Γ' (Ω.eraseIdx j) tt b) : EvT Γ Ω tt b := fun Z F H σ c Q q =>
  ev_peekS (K := K) (te := fun σ H Q => tt σ H (fun b H' => Q (.bl b) H')) (w := .bl b) hm hg (fun Z F H σ c Q q => h Z F H σ c _ (fun F' H' c' e => q _ F' H' c' e rfl)) Z F H σ c (fun v H' => match v with | .bl b' => Q b' H' | _ => False) (fun v F' H' c' e rv => by
    cases rv
    exact q F' H' c' e)
/-- a pair in a slot: its first, its second seen frozen -/
theorem sat_pair {F : Hp} {Γ : Gm} {σ : L2.St} {i : Nat} {R S R' S' : As} (h : Sat F Γ σ) (hi : Γ[i]? = some (some (Tp K [R, S]))) (h1 : ∀ v, R.p F v → R'.p F v) (h2 : ∀ v, S.p F v → S'.p F v) : Sat F (Γ.set i (some (Tp K [R', S']))) σ := by
  obtain ⟨v, e1, e2⟩ := h.get hi
  obtain ⟨a, vs, e, hs, hl⟩ := e2
  obtain ⟨x, y, ev, r1, r2⟩ := hl.two
  subst ev
  have z := h.set (R := Tp K [R', S']) (v := v) ⟨a, _, e, hs, h1 x r1, h2 y r2, trivial⟩ i
  rw [set_same e1] at z
  exact z
theorem sat_fst {F : Hp} {Γ : Gm} {σ : L2.St} {i : Nat} {p : Addr} {S : As} (h : Sat F Γ σ) (hi : Γ[i]? = some (some (Tp K [Rf p, S]))) (h1 : (Ls K Rs).p F (.ref p)) : Sat F (Γ.set i (some (Tp K [Ls K Rs, S]))) σ := sat_pair h hi (fun v r => by have r : v = .ref p := r; rw [r]; exact h1) (fun _ r => r)
theorem sat_snd {F : Hp} {Γ : Gm} {σ : L2.St} {i : Nat} {p : Addr} {R : As} (h : Sat F Γ σ) (hi : Γ[i]? = some (some (Tp K [R, Rf p]))) (h1 : (Ls K Rs).p F (.ref p)) : Sat F (Γ.set i (some (Tp K [R, Ls K Rs]))) σ := sat_pair h hi (fun _ r => r) (fun v r => by have r : v = .ref p := r; rw [r]; exact h1)
end
/-! ## return (e1, e2), both new and owned -/
section
variable {Z : Bs} {F H : Hp} {σ : L2.St} {Γ : Gm} {Ω : Om} {K : PySem.W.Frag} {ta tb : TE} {n : L2.St → Hp → Prop} {r : VK} {bk ct : L2.St → Hp → Prop} {A B : OA}
theorem st_retT2 (c : Ctx Z F H σ Γ Ω) (e1 : EvNw Γ Ω ta A) (e2 : ∀ p, EvNw Γ ((p, A) :: Ω) tb B) (k : ∀ p q v F' H', Ctx Z F' H' σ Γ ((q, B) :: (p, A) :: Ω) → Same F F' → (Tp K [Rf p, Rf q]).p F' v → Z.H p = none → Z.H q = none → r v H') : tRet (tTup (tCons ta (tCons tb tNil))) ⟨n, r, bk, ct⟩ σ H :=
  e1 Z F H σ c _ fun p F1 H1 c1 s1 n1 => e2 p Z F1 H1 σ c1 _ fun q F2 H2 c2 s2 n2 => ⟨Nat.le_of_lt (small1000 (show 2 ≤ 1000 by decide)), fun a ha => by
    obtain ⟨e, s⟩ := Ext.new (o := .tup [.ref p, .ref q]) c2.sub ha
    exact k p q (.ref a) _ _ (c2.step e s) (s1.fe.trans (s2.fe.trans e.fe)) ⟨a, _, rfl, SqT.of upd_same, rfl, rfl, trivial⟩ (c.ext.dm _ n1) (c1.ext.dm _ n2)⟩
end
end Y

namespace Y
open PySem L2
/-! ## dicts by texts -/
def AllS (F : Hp) : List (Str × As) → List (Key × V) → Prop
  | [], [] => True
  | (k, R) :: l, (q, v) :: kvs => q = .inr k ∧ R.p F v ∧ AllS F l kvs
  | _, _ => False
theorem AllS.mono {F F' : Hp} (s : Same F F') : ∀ {l : List (Str × As)} {kvs : List (Key × V)}, AllS F l kvs → AllS F' l kvs
  | [], [], _ => trivial
  | (k, R) :: l, (q, v) :: kvs, h => ⟨h.1, R.mono s h.2.1, AllS.mono s h.2.2⟩
  | [], _ :: _, h => h.elim
  | _ :: _, [], h => h.elim
theorem AllS.length {F : Hp} : ∀ {l : List (Str × As)} {kvs : List (Key × V)}, AllS F l kvs → kvs.length = l.length
  | [], [], _ => rfl
  | (k, R) :: l, (q, v) :: kvs, h => congrArg (· + 1) (AllS.length h.2.2)
  | [], _ :: _, h => h.elim
  | _ :: _, [], h => h.elim
/-- what stands at k -/
def getS {β : Type} (k : Str) : List (Str × β) → Option β
  | [] => none
  | (i, y) :: l => if i = k then some y else getS k l
def hasS {β : Type} (k : Str) : List (Str × β) → Bool
  | [] => false
  | (i, _) :: l => decide (i = k) || hasS k l
def putS {β : Type} (l : List (Str × β)) (k : Str) (y : β) : List (Str × β) := if hasS k l then l.map fun p => if p.1 = k then (p.1, y) else p else l ++ [(k, y)]
theorem getS_map {β γ : Type} {g : β → γ} (k : Str) : ∀ l : List (Str × β), getS k (l.map fun p => (p.1, g p.2)) = (getS k l).map g
  | [] => rfl
  | (i, y) :: l => by
    show (if i = k then some (g y) else getS k (l.map fun p => (p.1, g p.2))) = (if i = k then some y else getS k l).map g
    split
    · rfl
    · exact getS_map k l
theorem hasS_map {β γ : Type} {g : β → γ} (k : Str) : ∀ l : List (Str × β), hasS k (l.map fun p => (p.1, g p.2)) = hasS k l
  | [] => rfl
  | (i, y) :: l => by
    show (decide (i = k) || hasS k (l.map fun p => (p.1, g p.2))) = (decide (i = k) || hasS k l)
    rw [hasS_map k l]
theorem putS_map {β γ : Type} {g : β → γ} {k : Str} {y : β} {l : List (Str × β)} : putS (l.map fun p => (p.1, g p.2)) k (g y) = (putS l k y).map fun p => (p.1, g p.2) := by
  unfold putS
  rw [hasS_map]
  split
  · rw [List.map_map, List.map_map]
    refine List.map_congr_left fun p _ => ?_
    simp only [Function.comp]
    split <;> rfl
  · rw [List.map_append]; rfl
theorem hasS_get {β : Type} (k : Str) : ∀ l : List (Str × β), hasS k l = (getS k l).isSome
  | [] => rfl
  | (i, y) :: l => by
    show (decide (i = k) || hasS k l) = (if i = k then some y else getS k l).isSome
    by_cases h : i = k
    · rw [if_pos h, decide_eq_true h]; rfl
    · rw [if_neg h, decide_eq_false h, hasS_get k l]; rfl
theorem getS_put {β : Type} {k j : Str} {y : β} : ∀ {l : List (Str × β)}, getS j (putS l k y) = if j = k then some y else getS j l := fun {l} => by
  have h1 : ∀ l : List (Str × β), getS j (l.map fun p => if p.1 = k then (p.1, y) else p) = if j = k then (getS j l).map (fun _ => y) else getS j l := fun l => by
    induction l with
    | nil => simp [getS]
    | cons p l ih =>
      obtain ⟨i, z⟩ := p
      rw [List.map_cons]
      by_cases h : i = k
      · rw [if_pos h]
        show (if i = j then some y else getS j _) = _
        rw [ih]
        by_cases hj : j = k
        · rw [if_pos hj, if_pos hj, if_pos (h.trans hj.symm)]
          show some y = (if i = j then some z else getS j l).map _
          rw [if_pos (h.trans hj.symm)]; rfl
        · have hij : ¬ i = j := fun e => hj (e.symm.trans h)
          rw [if_neg hj, if_neg hj, if_neg hij]
          show getS j l = if i = j then some z else getS j l
          rw [if_neg hij]
      · rw [if_neg h]
        show (if i = j then some z else getS j _) = _
        rw [ih]
        by_cases hj : j = k
        · have hij : ¬ i = j := fun e => h (e.trans hj)
          rw [if_neg hij, if_pos hj, if_pos hj]
          show _ = (if i = j then some z else getS j l).map _
          rw [if_neg hij]
        · rw [if_neg hj, if_neg hj]
          show _ = if i = j then some z else getS j l
          rfl
  have h2 : ∀ l : List (Str × β), getS j (l ++ [(k, y)]) = (getS j l).or (if k = j then some y else none) := fun l => by
    induction l with
    | nil => rfl
    | cons p l ih =>
      obtain ⟨i, z⟩ := p
      show (if i = j then some z else getS j (l ++ [(k, y)])) = (if i = j then some z else getS j l).or _
      split
      · rfl
      · exact ih
  unfold putS
  split
  · rename_i h
    rw [h1]
    split
    · rename_i e
      subst e
      rw [hasS_get] at h
      cases z : getS j l with
      | none => rw [z] at h; cases h
      | some x => rfl
    · rfl
  · rename_i h
    rw [h2]
    by_cases e : j = k
    · subst e
      have hn : getS j l = none := by
        rw [hasS_get] at h
        cases z : getS j l with
        | none => rfl
        | some x => rw [z] at h; exact absurd rfl h
      rw [hn]; simp
    · rw [if_neg (fun z => e z.symm), if_neg e, Option.or_none]
theorem AllS.get {F : Hp} {k : Str} : ∀ {l : List (Str × As)} {kvs : List (Key × V)}, AllS F l kvs → (∀ R, getS k l = some R → ∃ v, valV kvs (.inr k) = some v ∧ R.p F v) ∧ (getS k l = none → valV kvs (.inr k) = none)
  | [], [], _ => ⟨fun R h => (by cases h), fun _ => rfl⟩
  | (i, R0) :: l, (q, v) :: kvs, ⟨h1, h2, h3⟩ => by
    obtain ⟨g1, g2⟩ := AllS.get (k := k) h3
    subst h1
    by_cases e : i = k
    · subst e
      rw [valV_pos rfl]
      have e2 : getS i ((i, R0) :: l) = some R0 := if_pos rfl
      rw [e2]
      exact ⟨fun R h => by cases h; exact ⟨v, rfl, h2⟩, fun h => by cases h⟩
    · rw [valV_neg (fun z => e (Sum.inr.inj z))]
      have e2 : getS k ((i, R0) :: l) = getS k l := if_neg e
      rw [e2]
      exact ⟨g1, g2⟩
  | [], _ :: _, h => h.elim
  | _ :: _, [], h => h.elim
theorem AllS.has {F : Hp} {k : Str} : ∀ {l : List (Str × As)} {kvs : List (Key × V)}, AllS F l kvs → (kvs.any fun kv => decide (kv.1 = .inr k)) = hasS k l
  | [], [], _ => rfl
  | (i, R0) :: l, (q, v) :: kvs, ⟨h1, h2, h3⟩ => by
    subst h1
    show (decide (Sum.inr i = (Sum.inr k : Key)) || kvs.any _) = (decide (i = k) || hasS k l)
    rw [AllS.has h3]
    congr 1
    exact decide_eq_decide.mpr ⟨fun z => Sum.inr.inj z, fun z => by rw [z]⟩
  | [], _ :: _, h => h.elim
  | _ :: _, [], h => h.elim
theorem AllS.put {F : Hp} {k : Str} {R : As} {v : V} (q : R.p F v) {l : List (Str × As)} {kvs : List (Key × V)} (h : AllS F l kvs) : AllS F (putS l k R) (putK kvs (.inr k) v) := by
  have h1 : ∀ {l : List (Str × As)} {kvs : List (Key × V)}, AllS F l kvs → AllS F (l.map fun p => if p.1 = k then (p.1, R) else p) (kvs.map fun kv => if kv.1 = (.inr k : Key) then (kv.1, v) else kv) := fun {l} => by
    induction l with
    | nil =>
      intro kvs h
      cases kvs with
      | nil => exact trivial
      | cons _ _ => exact h.elim
    | cons p l ih =>
      intro kvs h
      cases kvs with
      | nil => exact h.elim
      | cons kv kvs =>
        obtain ⟨i, R0⟩ := p
        obtain ⟨a, w⟩ := kv
        obtain ⟨a1, a2, a3⟩ := h
        subst a1
        rw [List.map_cons, List.map_cons]
        by_cases e : i = k
        · rw [if_pos e, if_pos (by rw [e])]
          exact ⟨rfl, q, ih a3⟩
        · rw [if_neg e, if_neg (fun z => e (Sum.inr.inj z))]
          exact ⟨rfl, a2, ih a3⟩
  have h2 : ∀ {l : List (Str × As)} {kvs : List (Key × V)}, AllS F l kvs → AllS F (l ++ [(k, R)]) (kvs ++ [(.inr k, v)]) := fun {l} => by
    induction l with
    | nil =>
      intro kvs h
      cases kvs with
      | nil => exact ⟨rfl, q, trivial⟩
      | cons _ _ => exact h.elim
    | cons p l ih =>
      intro kvs h
      cases kvs with
      | nil => exact h.elim
      | cons kv kvs => exact ⟨h.1, h.2.1, ih h.2.2⟩
  unfold putS putK
  rw [h.has]
  split
  · exact h1 h
  · exact h2 h
theorem len_putS {β : Type} (l : List (Str × β)) (k : Str) (y : β) : (putS l k y).length ≤ l.length + 1 := by
  unfold putS
  split
  · rw [List.length_map]; omega
  · rw [List.length_append]; exact Nat.le_refl _
def delS {β : Type} (l : List (Str × β)) (k : Str) : List (Str × β) := l.filter fun p => decide (p.1 ≠ k)
theorem delS_map {β γ : Type} {g : β → γ} {k : Str} {l : List (Str × β)} : delS (l.map fun p => (p.1, g p.2)) k = (delS l k).map fun p => (p.1, g p.2) := by
  unfold delS
  rw [List.filter_map]; rfl
theorem getS_del {β : Type} {k j : Str} : ∀ {l : List (Str × β)}, getS j (delS l k) = if j = k then none else getS j l
  | [] => by simp [delS, getS]
  | (i, y) :: l => by
    have ih := getS_del (k := k) (j := j) (l := l)
    unfold delS at ih ⊢
    rw [List.filter_cons]
    show getS j (if decide (i ≠ k) = true then (i, y) :: l.filter (fun p => decide (p.1 ≠ k)) else l.filter (fun p => decide (p.1 ≠ k))) = if j = k then none else (if i = j then some y else getS j l)
    by_cases h : i = k
    · rw [if_neg (by simp [h]), ih]
      by_cases hj : j = k
      · rw [if_pos hj, if_pos hj]
      · rw [if_neg hj, if_neg hj, if_neg (fun z => hj (z.symm.trans h))]
    · rw [if_pos (by simp [h])]
      show (if i = j then some y else getS j _) = _
      rw [ih]
      by_cases hj : j = k
      · rw [if_pos hj, if_pos hj, if_neg (fun z => h (z.trans hj))]
      · rw [if_neg hj, if_neg hj]
theorem AllS.del {F : Hp} {k : Str} : ∀ {l : List (Str × As)} {kvs : List (Key × V)}, AllS F l kvs → AllS F (delS l k) (dropK kvs (.inr k))
  | [], [], _ => trivial
  | (i, R) :: l, (q, v) :: kvs, ⟨h1, h2, h3⟩ => by
    subst h1
    have ih := AllS.del (k := k) h3
    unfold delS dropK at ih ⊢
    rw [List.filter_cons, List.filter_cons]
    by_cases h : i = k
    · rw [if_neg (by simp [h]), if_neg (by simp [h])]
      exact ih
    · rw [if_pos (by simp [h]), if_pos (by simp [h])]
      exact ⟨rfl, h2, ih⟩
  | [], _ :: _, h => h.elim
  | _ :: _, [], h => h.elim
theorem AllS.keys {F : Hp} : ∀ {l : List (Str × As)} {kvs : List (Key × V)}, AllS F l kvs → kvs.map (fun kv => kV kv.1) = l.map fun p => V.str p.1
  | [], [], _ => rfl
  | (i, R) :: l, (q, v) :: kvs, ⟨h1, h2, h3⟩ => by
    subst h1
    rw [List.map_cons, List.map_cons, AllS.keys h3]; rfl
  | [], _ :: _, h => h.elim
  | _ :: _, [], h => h.elim
theorem AllS.vals {F : Hp} : ∀ {l : List (Str × As)} {kvs : List (Key × V)}, AllS F l kvs → All F (l.map (·.2)) (kvs.map (·.2))
  | [], [], _ => trivial
  | (i, R) :: l, (q, v) :: kvs, ⟨h1, h2, h3⟩ => ⟨h2, AllS.vals h3⟩
  | [], _ :: _, h => h.elim
  | _ :: _, [], h => h.elim
theorem AllS.at {F : Hp} : ∀ {l : List (Str × As)} {kvs : List (Key × V)} {i : Nat} {x : Str × As}, AllS F l kvs → l[i]? = some x → ∃ v, kvs[i]? = some (.inr x.1, v) ∧ x.2.p F v
  | [], [], i, x, _, e => by simp at e
  | (a, R) :: l, (q, v) :: kvs, 0, x, ⟨h1, h2, h3⟩, e => by
    have e' : (a, R) = x := Option.some.inj e
    subst e'
    subst h1
    exact ⟨v, rfl, h2⟩
  | (a, R) :: l, (q, v) :: kvs, i + 1, x, ⟨h1, h2, h3⟩, e => AllS.at (i := i) h3 (by simpa using e)
  | [], _ :: _, _, _, h, _ => h.elim
  | _ :: _, [], _, _, h, _ => h.elim
theorem all_strs {F : Hp} : ∀ {l : List Str}, All F (l.map fun x => S x) (l.map V.str)
  | [] => trivial
  | _ :: _ => ⟨rfl, all_strs⟩
/-! what is owned: a dict, a dict that is locked -/
def oS (l : List (Str × As)) : OA := ⟨fun F o => ∃ kvs, o = .dK kvs ∧ AllS F l kvs, fun s h => by
  obtain ⟨kvs, e, q⟩ := h; exact ⟨kvs, e, q.mono s⟩⟩
def oSk (od : Obj) (kvs : List (Key × V)) (l : List (Str × As)) : OA := ⟨fun F o => o = .frz od (.dK kvs) ∧ AllS F l kvs, fun s h => ⟨h.1, h.2.mono s⟩⟩
structure RdS (A : OA) (l : List (Str × As)) : Prop where
  rd : ∀ F o, A.p F o → ∃ kvs, (o = .dK kvs ∨ ∃ od, o = .frz od (.dK kvs)) ∧ AllS F l kvs
theorem rdS {l : List (Str × As)} : RdS (oS l) l := ⟨fun F o ⟨kvs, e, h⟩ => ⟨kvs, .inl e, h⟩⟩
theorem rdSk {l : List (Str × As)} {od : Obj} {kvs : List (Key × V)} : RdS (oSk od kvs l) l := ⟨fun F o ⟨e, h⟩ => ⟨kvs, .inr ⟨od, e⟩, h⟩⟩
section
variable {Z : Bs} {F H F' H' : Hp} {σ σ' : L2.St} {Γ Γ' : Gm} {Ω Ω' Ωr : Om} {K : PySem.W.Frag} {te ta tb tl tk tx : TE} {tt : TT} {R Rx Ry : As} {Rs Ss : List As} {n : L2.St → Hp → Prop} {r : VK} {bk ct : L2.St → Hp → Prop} {p d C dx : Addr} {l : List (Str × As)} {f m : Str} {j : Nat} {E : XK} {A A2 : OA} {k : Str}
def DkS (Γ : Gm) (Ω : Om) (te : TE) (l : List (Str × As)) : Prop := ∀ (Z : Bs) (F H : Hp) (σ : L2.St), Ctx Z F H σ Γ Ω → ∀ Q : VK, (∀ a F' H', Ctx Z F' H' σ Γ Ω → Ext [] F H F' H' → (∀ F2 H2, Ctx Z F2 H2 σ Γ Ω → Same F' F2 → ∃ kvs, Rd H2 a (.dK kvs) ∧ AllS F2 l kvs) → Q (.ref a) H') → te σ H Q
theorem dkoS (h : Ev Γ Ω te (Rf p)) (hm : Ω[j]? = some (p, A)) (hA : RdS A l) : DkS Γ Ω te l := fun Z F H σ c Q q => h Z F H σ c Q fun v F1 H1 c1 s1 rv => by
  cases rv
  refine q p F1 H1 c1 s1 fun F2 H2 c2 s2 => ?_
  obtain ⟨_, o, h2, ho⟩ := c2.own _ (List.mem_of_getElem? hm)
  obtain ⟨kvs, eo, hx⟩ := hA.rd _ _ ho
  refine ⟨kvs, ?_, hx⟩
  rcases eo with eo | ⟨od, eo⟩
  · exact .inl (by rw [h2, eo])
  · exact .inr ⟨od, by rw [h2, eo]⟩
theorem eo_snew : EvNw Γ Ω tDNewK (oS []) := fun Z F H σ c Q q p hp => q p F _ (c.grow (A := oS []) hp ⟨[], rfl, trivial⟩) (Ext.newH hp) hp
theorem dget_rd {H : Hp} {a : Addr} {kvs : List (Key × V)} {k : Key} (e : Rd H a (.dK kvs)) : DGet H a (kV k) (valV kvs k) := .inl ⟨kvs, k, e, rfl, rfl⟩
theorem ev_sget (ha : DkS Γ Ω ta l) (hb : Ev Γ Ω tb (S k)) (h : getS k l = some R) : Ev Γ Ω (tDGet ta tb) R := fun Z F H σ c Q q =>
  ha Z F H σ c _ fun a F1 H1 c1 s1 hd => hb Z F1 H1 σ c1 _ fun y F2 H2 c2 s2 ry => by
    cases ry
    obtain ⟨kvs, h1, h2⟩ := hd F2 H2 c2 s2.fe
    obtain ⟨v, h3, h4⟩ := (h2.get (k := k)).1 R h
    exact ⟨a, v, rfl, h3 ▸ dget_rd (k := .inr k) h1, q v F2 H2 c2 (s1.trans s2) h4⟩
theorem ev_sin (hb : Ev Γ Ω tb (S k)) (ha : DkS Γ Ω ta l) : Ev Γ Ω (tDIn tb ta) (B (hasS k l)) := fun Z F H σ c Q q =>
  hb Z F H σ c _ fun y F1 H1 c1 s1 ry => ha Z F1 H1 σ c1 _ fun a F2 H2 c2 s2 hd => by
    cases ry
    obtain ⟨kvs, h1, h2⟩ := hd F2 H2 c2 (Same.refl _)
    refine ⟨a, valV kvs (.inr k), rfl, dget_rd (k := .inr k) h1, q _ F2 H2 c2 (s1.trans s2) ?_⟩
    rw [← valV_any, h2.has]; rfl
theorem ev_snotin (hb : Ev Γ Ω tb (S k)) (ha : DkS Γ Ω ta l) : Ev Γ Ω (tDNotIn tb ta) (B (!hasS k l)) := fun Z F H σ c Q q =>
  hb Z F H σ c _ fun y F1 H1 c1 s1 ry => ha Z F1 H1 σ c1 _ fun a F2 H2 c2 s2 hd => by
    cases ry
    obtain ⟨kvs, h1, h2⟩ := hd F2 H2 c2 (Same.refl _)
    refine ⟨a, valV kvs (.inr k), rfl, dget_rd (k := .inr k) h1, q _ F2 H2 c2 (s1.trans s2) ?_⟩
    rw [← valV_any, h2.has]; rfl
theorem ev_sget2 {S0 : As} (ha : DkS Γ Ω ta l) (hb : Ev Γ Ω tb (S k)) (hx : Ev Γ Ω tx Rx) (h1 : ∀ R, getS k l = some R → ∀ F v, R.p F v → S0.p F v) (h2 : getS k l = none → ∀ F v, Rx.p F v → S0.p F v) : Ev Γ Ω (tDGet2 ta tb tx) S0 := fun Z F H σ c Q q =>
  ha Z F H σ c _ fun a F1 H1 c1 s1 hd => by
    obtain ⟨kvs, g1, g2⟩ := hd F1 H1 c1 (Same.refl _)
    refine ⟨a, rfl, .inl ⟨kvs, g1⟩, hb Z F1 H1 σ c1 _ fun y F2 H2 c2 s2 ry => hx Z F2 H2 σ c2 _ fun x F3 H3 c3 s3 rx => ?_⟩
    cases ry
    obtain ⟨kvs, g1, g2⟩ := hd F3 H3 c3 (s2.trans s3).fe
    refine ⟨valV kvs (.inr k), dget_rd (k := .inr k) g1, q _ F3 H3 c3 (s1.trans (s2.trans s3)) ?_⟩
    cases e : getS k l with
    | none => rw [(g2.get (k := k)).2 e]; exact h2 e _ _ rx
    | some R =>
      obtain ⟨v, e3, e4⟩ := (g2.get (k := k)).1 R e
      rw [e3]; exact h1 R e _ _ e4
theorem st_sput (c : Ctx Z F H σ Γ Ω) (e : Ev Γ Ω te R) (ha : Ev Γ Ω ta (Rf p)) (hm : Ω[j]? = some (p, oS l)) (hb : Ev Γ Ω tb (S k)) (hl : l.length ≤ 10000000) (kk : ∀ F' H', Ctx Z F' H' σ Γ (Ω.set j (p, oS (putS l k R))) → Same F F' → n σ H') (hw : Wr Z p) : sDPut ta tb te ⟨n, r, bk, ct⟩ σ H :=
  e Z F H σ c _ fun v F1 H1 c1 s1 rv => ha Z F1 H1 σ c1 _ fun x F2 H2 c2 s2 rx => hb Z F2 H2 σ c2 _ fun y F3 H3 c3 s3 ry => by
    cases rx
    cases ry
    obtain ⟨_, o, h2, kvs, eo, hx⟩ := c3.own _ (List.mem_of_getElem? hm)
    subst eo
    exact ⟨p, _, rfl, DPut.k (k := .inr k) h2 (by rw [hx.length]; exact Nat.lt_of_le_of_lt hl (by decide)), kk F3 _ (c3.chg hm ⟨_, rfl, hx.put (R.mono (s2.trans s3).fe rv)⟩ hw) (s1.trans (s2.trans s3)).fe⟩
/-- d[k] = e, where e changes what is owned -/
theorem em_sput (c : Ctx Z F H σ Γ Ω) (e : EvM Z Γ Ω te R Ω') (ha : Ev Γ Ω' ta (Rf p)) (hm : Ω'[j]? = some (p, oS l)) (hb : Ev Γ Ω' tb (S k)) (hl : l.length ≤ 10000000) (kk : ∀ F' H', Ctx Z F' H' σ Γ (Ω'.set j (p, oS (putS l k R))) → Same F F' → n σ H') (hw : Wr Z p) : sDPut ta tb te ⟨n, r, bk, ct⟩ σ H :=
  e F H σ c _ fun v F1 H1 c1 s1 rv => ha Z F1 H1 σ c1 _ fun x F2 H2 c2 s2 rx => hb Z F2 H2 σ c2 _ fun y F3 H3 c3 s3 ry => by
    cases rx
    cases ry
    obtain ⟨_, o, h2, kvs, eo, hx⟩ := c3.own _ (List.mem_of_getElem? hm)
    subst eo
    exact ⟨p, _, rfl, DPut.k (k := .inr k) h2 (by rw [hx.length]; exact Nat.lt_of_le_of_lt hl (by decide)), kk F3 _ (c3.chg hm ⟨_, rfl, hx.put (R.mono (s2.trans s3).fe rv)⟩ hw) (s1.trans (s2.trans s3).fe)⟩
/-- d[k] op= e -/
theorem st_saug {rd : V → V → Hp → VK → Prop} {Rv : As} (c : Ctx Z F H σ Γ Ω) (ha : Ev Γ Ω ta (Rf p)) (hm : Ω[j]? = some (p, oS l)) (hb : Ev Γ Ω tb (S k)) (hg : getS k l = some Rx) (e : Ev Γ Ω te Ry) (hr : RV rd Rx Ry Rv) (hl : l.length ≤ 10000000) (kk : ∀ F' H', Ctx Z F' H' σ Γ (Ω.set j (p, oS (putS l k Rv))) → Same F F' → n σ H') (hw : Wr Z p) : sDAug ta tb te rd ⟨n, r, bk, ct⟩ σ H :=
  ha Z F H σ c _ fun x F1 H1 c1 s1 rx => hb Z F1 H1 σ c1 _ fun y F2 H2 c2 s2 ry => by
    cases rx
    cases ry
    obtain ⟨_, o, h2, kvs, eo, hx⟩ := c2.own _ (List.mem_of_getElem? hm)
    subst eo
    obtain ⟨v, h3, h4⟩ := (hx.get (k := k)).1 Rx hg
    refine ⟨p, v, rfl, h3 ▸ DGet.k (k := .inr k) h2, e Z F2 H2 σ c2 _ fun y2 F3 H3 c3 s3 ry2 => hr F3 H3 v y2 c3.sub (Rx.mono s3.fe h4) ry2 _ fun z F4 H4 e4 s4 rz => ?_⟩
    have c4 := c3.step e4 s4
    obtain ⟨_, o, h2, kvs, eo, hx⟩ := c4.own _ (List.mem_of_getElem? hm)
    subst eo
    exact ⟨_, DPut.k (k := .inr k) h2 (by rw [hx.length]; exact Nat.lt_of_le_of_lt hl (by decide)), kk F4 _ (c4.chg hm ⟨_, rfl, hx.put rz⟩ hw) (((s1.trans s2).trans s3).fe.trans e4.fe)⟩
/-- d.pop(k), k there -/
theorem em_spop (ha : Ev Γ Ω ta (Rf p)) (hm : Ω[j]? = some (p, oS l)) (hb : Ev Γ Ω tb (S k)) (hg : getS k l = some R) (hw : Wr Z p) : EvM Z Γ Ω (tDPop1 ta tb) R (Ω.set j (p, oS (delS l k))) := fun F H σ c Q q =>
  ha Z F H σ c _ fun x F1 H1 c1 s1 rx => by
    cases rx
    obtain ⟨_, o, h2, kvs, eo, hx⟩ := c1.own _ (List.mem_of_getElem? hm)
    subst eo
    refine ⟨p, rfl, .inl ⟨kvs, .inl h2⟩, hb Z F1 H1 σ c1 _ fun y F2 H2 c2 s2 ry => ?_⟩
    cases ry
    obtain ⟨_, o, h2, kvs, eo, hx⟩ := c2.own _ (List.mem_of_getElem? hm)
    subst eo
    obtain ⟨v, h3, h4⟩ := (hx.get (k := k)).1 R hg
    exact ⟨kvs, .inr k, v, h2, rfl, h3, q v F2 _ (c2.chg hm ⟨_, rfl, hx.del⟩ hw) (s1.trans s2).fe h4⟩
/-- len(d) -/
def rLenD : List V → Hp → VK → Prop := fun xs H Q => ∃ a kvs, xs = [V.ref a] ∧ Rd H a (.dK kvs) ∧ Q (.int kvs.length) H
theorem cr_lenD {X : Cx} : CallR X (.builtin "len") rLenD := by
  intro pins s σ H xs us Q I r q
  obtain ⟨a, kvs, ex, hd, q⟩ := q
  subst ex
  rw [Vals.ref1 r]
  exact d_len I hd fun t s' I' => ⟨.int kvs.length, H, I', ⟨t, rfl⟩, q⟩
theorem ev_slen (ha : DkS Γ Ω ta l) : Ev Γ Ω (tCB rLenD (tCons ta tNil)) (I (l.length : Int)) := fun Z F H σ c Q q =>
  ha Z F H σ c _ fun a F1 H1 c1 s1 hd => by
    obtain ⟨kvs, h1, h2⟩ := hd F1 H1 c1 (Same.refl _)
    exact ⟨a, kvs, rfl, h1, q _ F1 H1 c1 s1 (by rw [h2.length]; rfl)⟩
/-- list(d) -/
theorem eo_slist (ha : DkS Γ Ω ta l) : EvNw Γ Ω (tCB (fun xs H Q => ∃ (a : Addr) (kvs : List (Key × V)), xs = [.ref a] ∧ Rd H a (.dK kvs) ∧ ∀ p, H p = none → Q (.ref p) (upd H p (.lst (kvs.map fun kv => kV kv.1)))) (tCons ta tNil)) (oL ((l.map (·.1)).map fun x => S x)) := fun Z F H σ c Q q =>
  ha Z F H σ c _ fun a F1 H1 c1 s1 hd => by
    obtain ⟨kvs, h1, h2⟩ := hd F1 H1 c1 (Same.refl _)
    refine ⟨a, kvs, rfl, h1, fun p hp => q p F1 _ (c1.grow (A := oL ((l.map (·.1)).map fun x => S x)) hp ⟨_, rfl, ?_⟩) (s1.trans (Ext.newH hp)) (s1.dm _ hp)⟩
    rw [h2.keys]
    have := all_strs (F := F1) (l := l.map (·.1))
    have e : (l.map (·.1)).map V.str = l.map fun p => V.str p.1 := by rw [List.map_map]; rfl
    rw [e] at this
    exact this
/-! locks -/
def swapH (H0 : Hp) (d : Addr) (w : HO) : Hp := fun a => if a = d then (H0 d).map (fun _ => w) else H0 a
theorem swapH_none {H0 : Hp} {w : HO} {a : Addr} : swapH H0 d w a = none ↔ H0 a = none := by
  unfold swapH
  by_cases h : a = d
  · rw [if_pos h, h, Option.map_eq_none_iff]
  · rw [if_neg h]
theorem swapH_ne {H0 : Hp} {w : HO} {a : Addr} (h : a ≠ d) : swapH H0 d w a = H0 a := if_neg h
theorem swapH_self {H0 : Hp} {w o : HO} (h : swapH H0 d w d = some o) : o = w := by
  unfold swapH at h
  rw [if_pos rfl] at h
  obtain ⟨x, _, e⟩ := Option.map_eq_some_iff.mp h
  exact e.symm
def swapZ (Z : Bs) (d : Addr) (w : HO) : Bs := ⟨Z.F, swapH Z.H d w, Z.ft, Z.G, Z.ro⟩
theorem swap_wr {w : HO} {x : Addr} (h : Wr Z x) : Wr (swapZ Z d w) x := h.elim .inl fun e => .inr (swapH_none.mpr e)
theorem swap_wr' {w : HO} {x : Addr} (h : Wr (swapZ Z d w) x) : Wr Z x := h.elim .inl fun e => .inr (swapH_none.mp e)
theorem own_at (c : Ctx Z F H σ Γ Ω) (hm : Ω[j]? = some (d, A)) (i : Nat) (x : Addr × OA) (hi : i ≠ j) (hx : Ω[i]? = some x) : x.1 ≠ d := fun z => by
  have a1 : (Ω.map (·.1))[i]? = some d := by rw [List.getElem?_map, hx, ← z]; rfl
  have a2 : (Ω.map (·.1))[j]? = some d := by rw [List.getElem?_map, hm]; rfl
  exact hi (nd_ix c.nd a1 a2)
theorem own_look (c : Ctx Z F H σ Γ Ω) (hm : Ω[j]? = some (d, A)) : ∀ x ∈ Ω.set j (d, A2), x = (d, A2) ∨ (x ∈ Ω ∧ x.1 ≠ d) := fun x hx => by
  have hj : j < Ω.length := (List.getElem?_eq_some_iff.mp hm).1
  obtain ⟨i, hi⟩ := List.getElem?_of_mem hx
  by_cases z : j = i
  · subst z
    rw [List.getElem?_set_self hj] at hi
    exact .inl (Option.some.inj hi).symm
  · rw [List.getElem?_set_ne z] at hi
    exact .inr ⟨List.mem_of_getElem? hi, own_at c hm i x (Ne.symm z) hi⟩
theorem own_nd (c : Ctx Z F H σ Γ Ω) (hm : Ω[j]? = some (d, A)) : ((Ω.set j (d, A2)).map (·.1)).Nodup := by
  have hj : j < Ω.length := (List.getElem?_eq_some_iff.mp hm).1
  rw [List.map_set]
  have e : (Ω.map (·.1)).set j d = Ω.map (·.1) := by
    have a2 : (Ω.map (·.1))[j]? = some d := by rw [List.getElem?_map, hm]; rfl
    apply List.ext_getElem?
    intro i
    by_cases z : j = i
    · subst z
      rw [List.getElem?_set_self (by rw [List.length_map]; exact hj), a2]
    · rw [List.getElem?_set_ne z]
  rw [e]; exact c.nd
/-- what is said of d at the start -/
def LkOk (Z : Bs) (d : Addr) (u : HO) : Prop := ∀ o, Z.H d = some o → d ∉ Z.ft → o = u
theorem Ctx.lkOk {u : HO} (c : Ctx Z F H σ Γ Ω) (hu : H d = some u) : LkOk Z d u := fun o h n => by
  have := c.ext.fr d o h n
  rw [hu] at this
  exact (Option.some.inj this).symm
theorem Ctx.swap {w : HO} (c : Ctx Z F H σ Γ Ω) (hm : Ω[j]? = some (d, A)) (hB : A2.p F w) : Ctx (swapZ Z d w) F (upd H d w) σ Γ (Ω.set j (d, A2)) := by
  have hmem := List.mem_of_getElem? hm
  obtain ⟨hf, o0, h0, _⟩ := c.own _ hmem
  dsimp only at hf h0
  refine ⟨c.sat, fun a u q => ?_, fun x hx => ?_, own_nd c hm, fun x hx => ?_, ⟨c.ext.fe, fun a u q na => ?_, fun a q => ?_, fun a h1 h2 => ?_⟩, c.pin⟩
  · rw [upd_ne (ne_of_none q hf)]; exact c.sub a u q
  · rcases own_look c hm x hx with z | ⟨hx, z⟩
    · subst z; exact ⟨hf, w, upd_same, hB⟩
    · obtain ⟨h1, o', h2, h3⟩ := c.own x hx
      exact ⟨h1, o', by rw [upd_ne z]; exact h2, h3⟩
  · have : x.1 ∈ Z.ft ∨ Z.H x.1 = none ∨ x.1 ∈ Z.ro := by
      rcases own_look c hm x hx with z | ⟨hx, z⟩
      · have z2 : x.1 = d := by rw [z]
        rw [z2]; exact c.loc _ hmem
      · exact c.loc x hx
    rcases this with l | l | l
    · exact .inl l
    · exact .inr (.inl (swapH_none.mpr l))
    · exact .inr (.inr l)
  · by_cases z : a = d
    · subst z
      rw [swapH_self q, upd_same]
    · rw [upd_ne z]
      exact c.ext.fr a u (by have q : swapH Z.H d w a = some u := q; rw [swapH_ne z] at q; exact q) na
  · have z : a ≠ d := fun z => by subst z; rw [upd_same] at q; cases q
    rw [upd_ne z] at q
    exact swapH_none.mpr (c.ext.dm a q)
  · exact c.ext.nw a (fun z => h1 (swapH_none.mpr z)) h2
theorem Ctx.back {u w : HO} (hk : LkOk Z d u) (c : Ctx (swapZ Z d w) F H σ Γ Ω) (hm : Ω[j]? = some (d, A2)) (hA : A.p F u) : Ctx Z F (upd H d u) σ Γ (Ω.set j (d, A)) := by
  have hmem := List.mem_of_getElem? hm
  obtain ⟨hf, o0, h0, _⟩ := c.own _ hmem
  dsimp only at hf h0
  refine ⟨c.sat, fun a v q => ?_, fun x hx => ?_, own_nd c hm, fun x hx => ?_, ⟨c.ext.fe, fun a v q na => ?_, fun a q => ?_, fun a h1 h2 => ?_⟩, c.pin⟩
  · rw [upd_ne (ne_of_none q hf)]; exact c.sub a v q
  · rcases own_look c hm x hx with z | ⟨hx, z⟩
    · subst z; exact ⟨hf, u, upd_same, hA⟩
    · obtain ⟨h1, o', h2, h3⟩ := c.own x hx
      exact ⟨h1, o', by rw [upd_ne z]; exact h2, h3⟩
  · have : x.1 ∈ Z.ft ∨ swapH Z.H d w x.1 = none ∨ x.1 ∈ Z.ro := by
      rcases own_look c hm x hx with z | ⟨hx, z⟩
      · have z2 : x.1 = d := by rw [z]
        rw [z2]; exact c.loc _ hmem
      · exact c.loc x hx
    rcases this with l | l | l
    · exact .inl l
    · exact .inr (.inl (swapH_none.mp l))
    · exact .inr (.inr l)
  · by_cases z : a = d
    · subst z
      rw [hk v q na, upd_same]
    · rw [upd_ne z]
      exact c.ext.fr a v (by show swapH Z.H d w a = some v; rw [swapH_ne z]; exact q) na
  · have z : a ≠ d := fun z => by subst z; rw [upd_same] at q; cases q
    rw [upd_ne z] at q
    exact swapH_none.mp (c.ext.dm a q)
  · exact c.ext.nw a (fun z => h1 (swapH_none.mp z)) h2
/-- the end of a lock -/
theorem Ctx.unlock {od : Obj} {kvs : List (Key × V)} (c : Ctx (swapZ Z d (.frz od (.dK kvs))) F H σ Γ Ω) (hk : LkOk Z d (.dK kvs)) (hm : Ω[j]? = some (d, oSk od kvs l)) : H d = some (.frz od (.dK kvs)) ∧ Ctx Z F (upd H d (.dK kvs)) σ Γ (Ω.set j (d, oS l)) := by
  obtain ⟨hf, o0, h0, e0, hx⟩ := c.own _ (List.mem_of_getElem? hm)
  dsimp only at h0
  refine ⟨by rw [h0, e0], c.back hk hm ⟨kvs, rfl, hx⟩⟩
/-- a statement under a lock -/
theorem st_lock {t : TS} (c : Ctx Z F H σ Γ Ω) (hm : Ω[j]? = some (d, oS l)) (kk : ∀ od kvs, LkOk Z d (.dK kvs) → Ctx (swapZ Z d (.frz od (.dK kvs))) F (upd H d (.frz od (.dK kvs))) σ Γ (Ω.set j (d, oSk od kvs l)) →
    t ⟨fun σ' H' => H' d = some (.frz od (.dK kvs)) ∧ n σ' (upd H' d (.dK kvs)), fun v H' => H' d = some (.frz od (.dK kvs)) ∧ r v (upd H' d (.dK kvs)), fun σ' H' => H' d = some (.frz od (.dK kvs)) ∧ bk σ' (upd H' d (.dK kvs)), fun σ' H' => H' d = some (.frz od (.dK kvs)) ∧ ct σ' (upd H' d (.dK kvs))⟩ σ (upd H d (.frz od (.dK kvs)))) : tLock t ⟨n, r, bk, ct⟩ σ H := by
  obtain ⟨hf, o0, h0, kvs, e0, hx⟩ := c.own _ (List.mem_of_getElem? hm)
  dsimp only at h0
  subst e0
  exact ⟨d, .dK kvs, h0, trivial, fun od => kk od kvs (c.lkOk h0) (c.swap hm ⟨rfl, hx⟩)⟩
/-- an expression under a lock -/
theorem ev_lock (hm : Ω[j]? = some (d, oS l)) (h : ∀ od kvs, Ev Γ (Ω.set j (d, oSk od kvs l)) te R) : Ev Γ Ω (tLockE te) R := fun Z F H σ c Q q => by
  obtain ⟨hf, o0, h0, kvs, e0, hx⟩ := c.own _ (List.mem_of_getElem? hm)
  have hj : j < Ω.length := (List.getElem?_eq_some_iff.mp hm).1
  dsimp only at h0 hf
  subst e0
  have hs : ∀ A2 : OA, (Ω.set j (d, A2)).set j (d, oS l) = Ω := fun A2 => by
    rw [List.set_set]
    refine List.ext_getElem? fun i => ?_
    by_cases z : j = i
    · subst z; rw [List.getElem?_set_self hj, hm]
    · rw [List.getElem?_set_ne z]
  refine ⟨d, .dK kvs, h0, trivial, fun od => ?_⟩
  have c1 := c.swap (w := .frz od (.dK kvs)) (A2 := oSk od kvs l) hm ⟨rfl, hx⟩
  refine h od kvs _ F _ σ c1 _ fun v F1 H1 c2 s1 rv => ?_
  have hm2 : (Ω.set j (d, oSk od kvs l))[j]? = some (d, oSk od kvs l) := List.getElem?_set_self hj
  obtain ⟨e1, c3⟩ := c2.unlock (c.lkOk h0) hm2
  rw [hs] at c3
  refine ⟨e1, q v F1 _ c3 ⟨s1.fe, fun a u e _ => ?_, fun a e => ?_, fun a g1 g2 => ?_⟩ rv⟩
  · by_cases z : a = d
    · subst z; rw [upd_same, ← h0, e]
    · rw [upd_ne z]; exact s1.fr a u (by rw [upd_ne z]; exact e) List.not_mem_nil
  · have z : a ≠ d := fun z => by subst z; rw [upd_same] at e; cases e
    rw [upd_ne z] at e
    have := s1.dm a e
    rw [upd_ne z] at this; exact this
  · by_cases z : a = d
    · subst z; exact s1.nw a (by rw [upd_same]; intro y; cases y) g2
    · exact s1.nw a (by rw [upd_ne z]; exact g1) g2
/-! sources over what is owned -/
def SrcK {α : Type} (Kp : Om → Prop) (Γ : Gm) (Ω : Om) (wi : TI) (xs : List α) (f : α → As) : Prop := ∀ (Z : Bs) (F H : Hp) (σ : L2.St), Ctx Z F H σ Γ Ω → ∀ R : It → Hp → Prop,
  (∀ J F1 H1, Ctx Z F1 H1 σ Γ Ω → Ext [] F H F1 H1 → (∀ (Z' : Bs) (F2 H2 : Hp) (σ2 : L2.St) (Γ2 : Gm) (Ω2 : Om), Ctx Z' F2 H2 σ2 Γ2 Ω2 → Same F1 F2 → Kp Ω2 →
    J.stop xs.length H2 ∧ ∀ i x, xs[i]? = some x → J.go i H2 ∧ ∀ v H3, J.yld i H2 v H3 → ∃ F3, Ext [] F2 H2 F3 H3 ∧ Same F3 H3 ∧ (f x).p F3 v) → R J H1) → wi σ H R
theorem src_skeys {od : Obj} {kvs : List (Key × V)} (e : Ev Γ Ω te (Rf d)) (hm : Ω[j]? = some (d, oSk od kvs l)) : SrcK (fun Ω' => (d, oSk od kvs l) ∈ Ω') Γ Ω (iKeys te) (l.map (·.1)) (fun x => S x) := fun Z F H σ c R q => e Z F H σ c _ fun v F1 H1 c1 s1 rv => by
  cases rv
  obtain ⟨hf, o0, h0, e0, hx⟩ := c1.own _ (List.mem_of_getElem? hm)
  dsimp only at h0
  refine ⟨d, od, rfl, .inl ⟨kvs, by rw [h0, e0], q _ F1 H1 c1 s1 fun Z' F2 H2 σ2 Γ2 Ω2 c2 s2 hk => ?_⟩⟩
  obtain ⟨_, o1, h1, e1, hx2⟩ := c2.own _ hk
  dsimp only at h1
  have hh : H2 d = some (.frz od (.dK kvs)) := by rw [h1, e1]
  refine ⟨⟨hh, by rw [List.length_map]; exact Nat.le_of_eq hx2.length⟩, fun i x hi => ?_⟩
  rw [List.getElem?_map] at hi
  obtain ⟨y, hy, ey⟩ := Option.map_eq_some_iff.mp hi
  subst ey
  obtain ⟨w, hw1, hw2⟩ := hx2.at hy
  refine ⟨⟨hh, (List.getElem?_eq_some_iff.mp hw1).1⟩, fun v H3 hv => ?_⟩
  obtain ⟨z1, k', v', z2, z3⟩ := hv
  subst z1
  rw [hw1] at z2
  cases z2
  exact ⟨F2, Ext.refl _ _ _, c2.sub, z3⟩
theorem src_svals {od : Obj} {kvs : List (Key × V)} (e : Ev Γ Ω te (Rf d)) (hm : Ω[j]? = some (d, oSk od kvs l)) : SrcK (fun Ω' => (d, oSk od kvs l) ∈ Ω') Γ Ω (iVals te) l (fun x => x.2) := fun Z F H σ c R q => e Z F H σ c _ fun v F1 H1 c1 s1 rv => by
  cases rv
  obtain ⟨hf, o0, h0, e0, hx⟩ := c1.own _ (List.mem_of_getElem? hm)
  dsimp only at h0
  refine ⟨d, od, kvs, rfl, by rw [h0, e0], q _ F1 H1 c1 s1 fun Z' F2 H2 σ2 Γ2 Ω2 c2 s2 hk => ?_⟩
  obtain ⟨_, o1, h1, e1, hx2⟩ := c2.own _ hk
  dsimp only at h1
  have hh : H2 d = some (.frz od (.dK kvs)) := by rw [h1, e1]
  refine ⟨⟨hh, Nat.le_of_eq hx2.length⟩, fun i y hy => ?_⟩
  obtain ⟨w, hw1, hw2⟩ := hx2.at hy
  refine ⟨⟨hh, (List.getElem?_eq_some_iff.mp hw1).1⟩, fun v H3 hv => ?_⟩
  obtain ⟨z1, k', z2⟩ := hv
  subst z1
  rw [hw1] at z2
  cases z2
  exact ⟨F2, Ext.refl _ _ _, c2.sub, hw2⟩
theorem src_sitems {od : Obj} {kvs : List (Key × V)} (e : Ev Γ Ω te (Rf d)) (hm : Ω[j]? = some (d, oSk od kvs l)) : SrcK (fun Ω' => (d, oSk od kvs l) ∈ Ω') Γ Ω (iItems te) l (fun x => Tp K [S x.1, x.2]) := fun Z F H σ c R q => e Z F H σ c _ fun v F1 H1 c1 s1 rv => by
  cases rv
  obtain ⟨hf, o0, h0, e0, hx⟩ := c1.own _ (List.mem_of_getElem? hm)
  dsimp only at h0
  refine ⟨d, od, kvs, rfl, by rw [h0, e0], q _ F1 H1 c1 s1 fun Z' F2 H2 σ2 Γ2 Ω2 c2 s2 hk => ?_⟩
  obtain ⟨_, o1, h1, e1, hx2⟩ := c2.own _ hk
  dsimp only at h1
  have hh : H2 d = some (.frz od (.dK kvs)) := by rw [h1, e1]
  refine ⟨⟨hh, Nat.le_of_eq hx2.length⟩, fun i y hy => ?_⟩
  obtain ⟨w, hw1, hw2⟩ := hx2.at hy
  refine ⟨⟨hh, (List.getElem?_eq_some_iff.mp hw1).1⟩, fun v H3 hv => ?_⟩
  obtain ⟨T, k', v', z2, z3, z4, z5⟩ := hv
  rw [hw1] at z2
  cases z2
  subst z3 z5
  obtain ⟨e3, s3⟩ := Ext.new (o := .tup [kV (.inr y.1), w]) c2.sub z4
  exact ⟨_, e3, s3, T, _, rfl, SqT.of upd_same, rfl, y.2.mono e3.fe hw2, trivial⟩
/-- an owned list that stands while it is walked -/
theorem src_ol {α : Type} {xs : List α} {f : α → As} {ys : List V} (e : Ev Γ Ω te (Rf d)) (hm : Ω[j]? = some (d, oX ys (xs.map f))) : SrcK (fun Ω' => (d, oX ys (xs.map f)) ∈ Ω') Γ Ω (iList K te) xs f := fun Z F H σ c R q => e Z F H σ c _ fun v F1 H1 c1 s1 rv => by
  cases rv
  obtain ⟨hf, o0, h0, e0, hx⟩ := c1.own _ (List.mem_of_getElem? hm)
  dsimp only at h0
  refine ⟨d, rfl, ⟨ys, SqL.of (by rw [h0, e0])⟩, q _ F1 H1 c1 s1 fun Z' F2 H2 σ2 Γ2 Ω2 c2 s2 hk => ?_⟩
  obtain ⟨_, o1, h1, e1, hx2⟩ := c2.own _ hk
  dsimp only at h1
  have hh : SqL K H2 d ys := SqL.of (by rw [h1, e1])
  have hly : ys.length = xs.length := by rw [hx2.length, List.length_map]
  refine ⟨⟨ys, hh, Nat.le_of_eq hly⟩, fun i x hi => ?_⟩
  have hz : (xs.map f)[i]? = some (f x) := by rw [List.getElem?_map, hi]; rfl
  obtain ⟨y, ey, ry⟩ := hx2.get hz
  refine ⟨⟨ys, y, hh, ey⟩, fun v H3 hy => ?_⟩
  obtain ⟨e1, e2⟩ := hy
  subst e1
  have := e2 ys hh
  rw [ey] at this
  cases this
  exact ⟨F2, Ext.refl _ _ _, c2.sub, ry⟩
theorem st_forK {ι α : Type} {wi : TI} {g : TG} {tb : TS} {xs : List α} {f : α → As} (G : ι → Gm) (G' : α → ι → Gm) (O : ι → Om) (P : Nat → ι → Prop) {ws : List Nat} (i0 : ι) (c : Ctx Z F H σ (G i0) (O i0)) {Kp : Om → Prop} (e : SrcK Kp (G i0) (O i0) wi xs f) (hkp : ∀ i, Kp (O i)) (p0 : P 0 i0)
    (hg : ∀ x i, Gt (G i) (f x) g (G' x i) ws)
    (body : ∀ k x i G1 F H σ (N : L2.St → Hp → Prop), xs[k]? = some x → P k i → Ctx (Z.pin G1) F H σ (G' x i) (O i) → (∀ j F' H' σ', P (k + 1) j → Ctx (Z.pin G1) F' H' σ' (G j) (O j) → N σ' H') → tb ⟨N, r, n, N⟩ σ H)
    (hd : ∀ i F H σ, P xs.length i → Ctx Z F H σ (G i) (O i) → n σ H) : tFor wi g tb ⟨n, r, bk, ct⟩ σ H := by
  refine e Z F H σ c _ fun J F1 H1 c1 s1 src => ?_
  refine ⟨fun k m σ H => m = xs.length - k ∧ k ≤ xs.length ∧ ∃ i F, P k i ∧ Ctx (Z.pin F1) F H σ (G i) (O i), ⟨_, rfl, Nat.zero_le _, i0, F1, p0, c1.topin (Same.refl _)⟩, ?_⟩
  rintro k m σ H ⟨rfl, hkn, i, F, p, cc⟩
  obtain ⟨stop, go⟩ := src _ F H σ _ _ cc cc.pin (hkp i)
  rcases Nat.lt_or_eq_of_le hkn with hk | hk
  · have hx : xs[k]? = some xs[k] := List.getElem?_eq_getElem hk
    obtain ⟨g1, yl⟩ := go k xs[k] hx
    refine .inr ⟨g1, fun σ' H' => ∃ i F, P (k + 1) i ∧ Ctx (Z.pin F1) F H' σ' (G i) (O i), fun σ' H' p' => ⟨xs.length - (k + 1), by omega, rfl, hk, p'⟩, fun v H3 hy => ?_⟩
    obtain ⟨F3, e3, s3, rv⟩ := yl v H3 hy
    refine hg xs[k] i (Z.pin F1) F3 H3 σ v (O i) (cc.step e3 s3) rv _ fun σ' c' _ => ?_
    exact body k xs[k] i F1 F3 H3 σ' _ hx p c' fun j F' H' σ'' pj cj => ⟨j, F', pj, cj⟩
  · subst hk
    exact .inl ⟨stop, hd i F H σ p (cc.unpin c1.pin)⟩
theorem ev_lcK {α : Type} {wi : TI} {xs : List α} {f : α → As} {g : TG} {vs : List Nat} (G' : α → Gm) (cd : α → Bool) (res : α → As) {ws : List Nat} {Kp : Om → Prop} (e : SrcK Kp Γ Ω wi xs f) (hkp : Kp Ω) (hg : ∀ x, Gt (wipeG Γ vs) (f x) g (G' x) ws) (hw : ∀ i ∈ ws, i ∈ vs)
    (ht : ∀ x ∈ xs, EvT (G' x) Ω tt (cd x)) (he : ∀ x ∈ xs, cd x = true → Ev (G' x) Ω te (res x)) (hlen : xs.length ≤ 100000) : Ev Γ Ω (tLc wi g tt te vs) (Ls K ((xs.filter cd).map res)) := fun Z F H σ c Q q =>
  e Z F H σ c _ fun J F1 H1 c1 s1 src => by
    intro D hD
    have cw : Ctx Z F1 H1 (L2.wipe σ vs) (wipeG Γ vs) Ω := c1.slots (c1.sat.wipe vs)
    let Pv : Nat → Hp → Prop := (fun k H' => ∃ F' acc, H' D = some (.lst acc) ∧ acc.length ≤ k ∧ All F' (((xs.take k).filter cd).map res) acc ∧ F' D = none ∧ ∃ G, Ctx Z F' G (L2.wipe σ vs) (wipeG Γ vs) Ω ∧ Ext [] F1 H1 F' G ∧ G D = none ∧ H' = upd G D (.lst acc))
    refine ⟨fun i m H => m = xs.length - i ∧ i ≤ xs.length ∧ Pv i H, ⟨_, rfl, Nat.zero_le _, F1, [], upd_same, Nat.zero_le _, trivial, c1.sub.free hD, H1, cw, Ext.refl _ _ _, hD, rfl⟩, ?_⟩
    rintro k m Hc ⟨rfl, hkn, pk⟩
    rcases Nat.lt_or_eq_of_le hkn with hk | hk
    · obtain ⟨F', acc, hA, hlA, hall, hFD, G, cG, eG, hGD, rfl⟩ := pk
      have hx : xs[k]? = some xs[k] := List.getElem?_eq_getElem hk
      have hmem : xs[k] ∈ xs := List.getElem_mem hk
      have cA0 : Ctx Z F' (upd G D (.lst acc)) (L2.wipe σ vs) (wipeG Γ vs) Ω := (cG.grow (A := ⟨fun _ _ => True, fun _ h => h⟩) (p := D) (o := .lst acc) hGD trivial).tail
      obtain ⟨go, yl⟩ := (src Z F' _ _ _ _ cA0 eG.fe hkp).2 k xs[k] hx
      refine .inr ⟨go, Pv (k + 1), fun H' p' => ⟨xs.length - (k + 1), by omega, rfl, hk, p'⟩, fun y H' hy => ?_⟩
      obtain ⟨F0, e0, s0, ry⟩ := yl y H' hy
      -- the list that is being made, as something owned
      have cA : Ctx Z F0 H' (L2.wipe σ vs) (wipeG Γ vs) Ω := cA0.step e0 s0
      have pres : ∀ {F2 H2 : Hp}, Ext [] F' (upd G D (.lst acc)) F2 H2 → H2 D = some (.lst acc) := fun e2 => e2.fr D _ upd_same List.not_mem_nil
      have back : ∀ {F2 H2 : Hp} {σ2 : L2.St} {Γ2 : Gm}, Ctx Z F2 H2 σ2 Γ2 Ω → Ext [] F' (upd G D (.lst acc)) F2 H2 → F2 D = none ∧ ∃ G2, Ctx Z F2 G2 (L2.wipe σ vs) (wipeG Γ vs) Ω ∧ Ext [] F1 H1 F2 G2 ∧ G2 D = none ∧ ∀ o, upd H2 D o = upd G2 D o := fun {F2 H2 σ2 Γ2} c2 e2 => by
        have f2 : F2 D = none := e2.nw D (by rw [upd_same]; exact fun z => by cases z) hFD
        let G2 : Hp := fun b => if b = D then none else H2 b
        have g2 : ∀ b, b ≠ D → G2 b = H2 b := fun b hb => if_neg hb
        have gD : G2 D = none := if_pos rfl
        have hext : Ext [] F' G F2 G2 := by
          refine ⟨e2.fe, fun b o h hn => ?_, fun b h => ?_, fun b h1 h2 => ?_⟩
          · have hb : b ≠ D := ne_of_none h hGD
            rw [g2 b hb]
            exact e2.fr b o (by rw [upd_ne hb]; exact h) hn
          · by_cases hb : b = D
            · rw [hb]; exact hGD
            · rw [g2 b hb] at h
              have := e2.dm b h
              rw [upd_ne hb] at this
              exact this
          · have hb : b ≠ D := fun z => h1 (by rw [z]; exact hGD)
            exact e2.nw b (by rw [upd_ne hb]; exact h1) h2
        have hsub : Same F2 G2 := fun b o h => by
          have hb : b ≠ D := ne_of_none h f2
          rw [g2 b hb]
          exact c2.sub b o h
        refine ⟨f2, G2, cG.step hext hsub, eG.trans hext, gD, fun o => ?_⟩
        funext b
        unfold upd
        by_cases hb : b = D
        · rw [if_pos hb, if_pos hb]
        · rw [if_neg hb, if_neg hb, g2 b hb]
      refine hg xs[k] Z F0 _ (L2.wipe σ vs) y Ω cA ry _ fun σ2 c2 hσ => ⟨(hσ vs hw).trans ?_, ?_⟩
      · exact wipe_wipe σ vs
      refine ht xs[k] hmem Z F0 _ σ2 c2 _ fun F3 H3 c3 e3' => ?_
      have e3 := e0.trans e3'
      cases hc : cd xs[k] with
      | false =>
        refine iteF ?_
        obtain ⟨f3, G3, cG3, eG3, gD3, up3⟩ := back c3 e3
        refine ⟨F3, acc, pres e3, by omega, ?_, f3, G3, cG3, eG3, gD3, ?_⟩
        · rw [filter_take hx, hc, if_neg Bool.false_ne_true, List.append_nil]
          exact hall.mono e3.fe
        · have := up3 (.lst acc)
          rw [← this]
          funext b
          unfold upd
          by_cases hb : b = D
          · rw [if_pos hb, hb]; exact pres e3
          · rw [if_neg hb]
      | true =>
        refine iteT ?_
        refine he xs[k] hmem hc Z F3 H3 σ2 c3 _ fun w F4 H4 c4 e4 rw' => ?_
        have e34 := e3.trans e4
        obtain ⟨f4, G4, cG4, eG4, gD4, up4⟩ := back c4 e34
        refine ⟨acc, pres e34, Nat.lt_of_le_of_lt (Nat.le_trans hlA (Nat.le_of_lt (Nat.lt_of_lt_of_le hk hlen))) (by decide), F4, acc ++ [w], upd_same, by rw [List.length_append]; exact Nat.succ_le_succ hlA, ?_, f4, G4, cG4, eG4, gD4, up4 _⟩
        rw [filter_take hx, hc, if_pos rfl, List.map_append]
        exact (hall.mono e34.fe).app ⟨rw', trivial⟩
    · subst hk
      obtain ⟨F', acc, hA, _, hall, hFD, G, cG, eG, hGD, rfl⟩ := pk
      have cA0 : Ctx Z F' (upd G D (.lst acc)) (L2.wipe σ vs) (wipeG Γ vs) Ω := (cG.grow (A := ⟨fun _ _ => True, fun _ h => h⟩) (p := D) (o := .lst acc) hGD trivial).tail
      refine .inl ⟨(src Z F' _ _ _ _ cA0 eG.fe hkp).1, ?_⟩
      rw [List.take_length] at hall
      obtain ⟨e', s'⟩ := Ext.new (o := .lst acc) cG.sub hGD
      exact q _ _ _ (c1.step (eG.trans e') s') (s1.trans (eG.trans e')) ⟨D, acc, rfl, SqL.of upd_same, hall.mono e'.fe⟩

theorem ev_lcKA {α : Type} {wi : TI} {xs : List α} {f : α → As} {g : TG} {vs : List Nat} (G' : α → Gm) (res : α → As) {ws : List Nat} {Kp : Om → Prop} (e : SrcK Kp Γ Ω wi xs f) (hkp : Kp Ω) (hg : ∀ x, Gt (wipeG Γ vs) (f x) g (G' x) ws) (hw : ∀ i ∈ ws, i ∈ vs)
    (he : ∀ x ∈ xs, Ev (G' x) Ω te (res x)) (hlen : xs.length ≤ 100000) : Ev Γ Ω (tLc wi g tYes te vs) (Ls K (xs.map res)) := by
  have z := ev_lcK (K := K) (te := te) (tt := tYes) G' (fun _ => true) res e hkp hg hw (fun _ _ => et_yes) (fun x hx _ => he x hx) hlen
  rw [List.filter_eq_self.mpr (fun _ _ => rfl)] at z
  exact z
theorem eo_lcK {α : Type} {wi : TI} {xs : List α} {f : α → As} {g : TG} {vs : List Nat} (G' : α → Gm) (cd : α → Bool) (res : α → As) {ws : List Nat} {Kp : Om → Prop} (e : SrcK Kp Γ Ω wi xs f) (hkp : Kp Ω) (hg : ∀ x, Gt (wipeG Γ vs) (f x) g (G' x) ws) (hw : ∀ i ∈ ws, i ∈ vs)
    (ht : ∀ x ∈ xs, EvT (G' x) Ω tt (cd x)) (he : ∀ x ∈ xs, cd x = true → Ev (G' x) Ω te (res x)) (hlen : xs.length ≤ 100000) : EvNw Γ Ω (tLc wi g tt te vs) (oL ((xs.filter cd).map res)) := fun Z F H σ c Q q =>
  e Z F H σ c _ fun J F1 H1 c1 s1 src => by
    intro D hD
    have cw : Ctx Z F1 H1 (L2.wipe σ vs) (wipeG Γ vs) Ω := c1.slots (c1.sat.wipe vs)
    let Pv : Nat → Hp → Prop := (fun k H' => ∃ F' acc, H' D = some (.lst acc) ∧ acc.length ≤ k ∧ All F' (((xs.take k).filter cd).map res) acc ∧ F' D = none ∧ ∃ G, Ctx Z F' G (L2.wipe σ vs) (wipeG Γ vs) Ω ∧ Ext [] F1 H1 F' G ∧ G D = none ∧ H' = upd G D (.lst acc))
    refine ⟨fun i m H => m = xs.length - i ∧ i ≤ xs.length ∧ Pv i H, ⟨_, rfl, Nat.zero_le _, F1, [], upd_same, Nat.zero_le _, trivial, c1.sub.free hD, H1, cw, Ext.refl _ _ _, hD, rfl⟩, ?_⟩
    rintro k m Hc ⟨rfl, hkn, pk⟩
    rcases Nat.lt_or_eq_of_le hkn with hk | hk
    · obtain ⟨F', acc, hA, hlA, hall, hFD, G, cG, eG, hGD, rfl⟩ := pk
      have hx : xs[k]? = some xs[k] := List.getElem?_eq_getElem hk
      have hmem : xs[k] ∈ xs := List.getElem_mem hk
      have cA0 : Ctx Z F' (upd G D (.lst acc)) (L2.wipe σ vs) (wipeG Γ vs) Ω := (cG.grow (A := ⟨fun _ _ => True, fun _ h => h⟩) (p := D) (o := .lst acc) hGD trivial).tail
      obtain ⟨go, yl⟩ := (src Z F' _ _ _ _ cA0 eG.fe hkp).2 k xs[k] hx
      refine .inr ⟨go, Pv (k + 1), fun H' p' => ⟨xs.length - (k + 1), by omega, rfl, hk, p'⟩, fun y H' hy => ?_⟩
      obtain ⟨F0, e0, s0, ry⟩ := yl y H' hy
      -- the list that is being made, as something owned
      have cA : Ctx Z F0 H' (L2.wipe σ vs) (wipeG Γ vs) Ω := cA0.step e0 s0
      have pres : ∀ {F2 H2 : Hp}, Ext [] F' (upd G D (.lst acc)) F2 H2 → H2 D = some (.lst acc) := fun e2 => e2.fr D _ upd_same List.not_mem_nil
      have back : ∀ {F2 H2 : Hp} {σ2 : L2.St} {Γ2 : Gm}, Ctx Z F2 H2 σ2 Γ2 Ω → Ext [] F' (upd G D (.lst acc)) F2 H2 → F2 D = none ∧ ∃ G2, Ctx Z F2 G2 (L2.wipe σ vs) (wipeG Γ vs) Ω ∧ Ext [] F1 H1 F2 G2 ∧ G2 D = none ∧ ∀ o, upd H2 D o = upd G2 D o := fun {F2 H2 σ2 Γ2} c2 e2 => by
        have f2 : F2 D = none := e2.nw D (by rw [upd_same]; exact fun z => by cases z) hFD
        let G2 : Hp := fun b => if b = D then none else H2 b
        have g2 : ∀ b, b ≠ D → G2 b = H2 b := fun b hb => if_neg hb
        have gD : G2 D = none := if_pos rfl
        have hext : Ext [] F' G F2 G2 := by
          refine ⟨e2.fe, fun b o h hn => ?_, fun b h => ?_, fun b h1 h2 => ?_⟩
          · have hb : b ≠ D := ne_of_none h hGD
            rw [g2 b hb]
            exact e2.fr b o (by rw [upd_ne hb]; exact h) hn
          · by_cases hb : b = D
            · rw [hb]; exact hGD
            · rw [g2 b hb] at h
              have := e2.dm b h
              rw [upd_ne hb] at this
              exact this
          · have hb : b ≠ D := fun z => h1 (by rw [z]; exact hGD)
            exact e2.nw b (by rw [upd_ne hb]; exact h1) h2
        have hsub : Same F2 G2 := fun b o h => by
          have hb : b ≠ D := ne_of_none h f2
          rw [g2 b hb]
          exact c2.sub b o h
        refine ⟨f2, G2, cG.step hext hsub, eG.trans hext, gD, fun o => ?_⟩
        funext b
        unfold upd
        by_cases hb : b = D
        · rw [if_pos hb, if_pos hb]
        · rw [if_neg hb, if_neg hb, g2 b hb]
      refine hg xs[k] Z F0 _ (L2.wipe σ vs) y Ω cA ry _ fun σ2 c2 hσ => ⟨(hσ vs hw).trans ?_, ?_⟩
      · exact wipe_wipe σ vs
      refine ht xs[k] hmem Z F0 _ σ2 c2 _ fun F3 H3 c3 e3' => ?_
      have e3 := e0.trans e3'
      cases hc : cd xs[k] with
      | false =>
        refine iteF ?_
        obtain ⟨f3, G3, cG3, eG3, gD3, up3⟩ := back c3 e3
        refine ⟨F3, acc, pres e3, by omega, ?_, f3, G3, cG3, eG3, gD3, ?_⟩
        · rw [filter_take hx, hc, if_neg Bool.false_ne_true, List.append_nil]
          exact hall.mono e3.fe
        · have := up3 (.lst acc)
          rw [← this]
          funext b
          unfold upd
          by_cases hb : b = D
          · rw [if_pos hb, hb]; exact pres e3
          · rw [if_neg hb]
      | true =>
        refine iteT ?_
        refine he xs[k] hmem hc Z F3 H3 σ2 c3 _ fun w F4 H4 c4 e4 rw' => ?_
        have e34 := e3.trans e4
        obtain ⟨f4, G4, cG4, eG4, gD4, up4⟩ := back c4 e34
        refine ⟨acc, pres e34, Nat.lt_of_le_of_lt (Nat.le_trans hlA (Nat.le_of_lt (Nat.lt_of_lt_of_le hk hlen))) (by decide), F4, acc ++ [w], upd_same, by rw [List.length_append]; exact Nat.succ_le_succ hlA, ?_, f4, G4, cG4, eG4, gD4, up4 _⟩
        rw [filter_take hx, hc, if_pos rfl, List.map_append]
        exact (hall.mono e34.fe).app ⟨rw', trivial⟩
    · subst hk
      obtain ⟨F', acc, hA, _, hall, hFD, G, cG, eG, hGD, rfl⟩ := pk
      have cA0 : Ctx Z F' (upd G D (.lst acc)) (L2.wipe σ vs) (wipeG Γ vs) Ω := (cG.grow (A := ⟨fun _ _ => True, fun _ h => h⟩) (p := D) (o := .lst acc) hGD trivial).tail
      refine .inl ⟨(src Z F' _ _ _ _ cA0 eG.fe hkp).1, ?_⟩
      rw [List.take_length] at hall
      exact q D F' _ (((c1.step eG cG.sub).grow (A := oL ((xs.filter cd).map res)) hGD ⟨acc, rfl, hall⟩)) (s1.trans (eG.trans (Ext.newH hGD))) (s1.dm _ (eG.dm _ hGD)) 
end
end Y

namespace PySem.W
open PySem PySem.Calls PyProof.Rows PyProof.V PySem.Spec
section
variable {prog : Program} {w : World} {A : Around} {E : Value → Shared → Prop} {s : Shared} {T : String} {r d : Addr} {n : Nat} {P : Nat → Value → Prop} {OK : Heap → Prop} {Q : Value → Shared → Prop}
theorem kdu_sum0 (K : KdlSrc prog w T r d n P OK) (hh : A.handled = none) (hok : OK s.heap) (val : Nat → Int) (hval : ∀ (i : Nat) (v : Value), P i v → ∃ t : Tok, v = Value.int (val i) t)
    (h : ∀ (h' : Heap) (tk : Nat) (t' : Tok), (∀ b o, s.heap.get? b = some o → h'.get? b = some o) → Q (.int (preSum val n) t') { s with heap := h', toks := tk }) :
    wpAny (model prog w) A (call (.builtin "sum") [.ref r]) Q E s := by
  refine call_sum_walkAnyS ?_
  obtain ⟨oI, St, hit, W, st⟩ := K.iter A.in1 s hh hok
  refine hit _ _ ⟨s.heap.objs.size, _, _, _, n, P, _, val, rfl, W.toS, st, fun b hb => ?_, hval, fun s' t' hm => ?_⟩
  · show b < (s.heap.push oI).objs.size
    rw [size_push']
    rcases List.mem_cons.mp hb with e | hb
    · rw [e]; exact Nat.lt_succ_self _
    · rw [List.mem_singleton.mp hb]; exact Nat.lt_succ_of_lt (K.there _ hok).2
  · have hk : ∀ b o, s.heap.get? b = some o → s'.heap.get? b = some o := fun b o e =>
      hm.heap b o (fun hI => absurd (Heap.lt_size e) (by rw [List.mem_singleton.mp hI]; exact Nat.lt_irrefl _)) (Heap.get?_push_of_some _ e)
    rw [Moved.eq_with hm]
    exact h s'.heap s'.toks t' hk
end
end PySem.W
namespace Y
open PySem L2 PySem.Spec
open PyProof.Rows (envOfC)
/-! ## sum(d.values()) -/
def tSumV (td : TE) : TE := fun σ H Q => td σ H fun x H1 => ∃ (d : Addr) (kvs : List (Key × V)) (ns : List Int), x = .ref d ∧ Rd H1 d (.dK kvs) ∧ kvs.map (·.2) = ns.map V.int ∧ Q (.int ns.sum) H1
theorem preSum_ints : ∀ (ns : List Int) (val : Nat → Int), (∀ (i : Nat) (n : Int), ns[i]? = some n → val i = n) → ∀ k, k ≤ ns.length → preSum val k = (ns.take k).sum
  | _, _, _, 0, _ => rfl
  | ns, val, hv, k + 1, hk => by
    have hx : ns[k]? = some ns[k] := List.getElem?_eq_getElem hk
    show preSum val k + val k = _
    rw [preSum_ints ns val hv k (Nat.le_of_succ_le hk), hv k _ hx, List.take_succ, hx, List.sum_append]
    simp
theorem pe_sumVals {X : Cx} {e : Expr} {td : TE} {p0 pos apos cpos : Pos} (hc : X.calm = true) (hgs : Gl X "sum") (hms : X.mg "sum" = none) (he : PE X e td)
    (hbase : attributeBase e "values" X.env (eval e X.env) = eval e X.env := by rfl) (hline : (apos.endLine == cpos.line) = true := by rfl)
    (hs1 : starEach [.Call (.Attribute e "values" apos) [] [] cpos] X.env = (false, eval (.Call (.Attribute e "values" apos) [] [] cpos) X.env) :: starEach [] X.env := by rfl)
    (hp1 : (backTo pos (starEach [] X.env)).any (·.1) = false := by rfl) :
    PE X (.Call (.Name "sum" p0) [.Call (.Attribute e "values" apos) [] [] cpos] [] pos) (tSumV td) := by
  refine ⟨fun pins s σ H Q I h => ?_⟩
  refine wpAny_Call_Name_kw (ld_blt I hgs hms PyProof.Rows.boot_sum ?_)
  refine PyProof.Rows.callWith_builtin1 ?_ hs1 hp1
  rw [hs1]
  show wpAny _ _ (spliced ((false, eval (.Call (.Attribute e "values" apos) [] [] cpos) X.env) :: backTo pos (starEach [] X.env))) _ _ s
  refine Calls.spliced_cons ?_
  refine wpAny_Call_method (T := "dict") (id := "dict.values") hbase rfl hline F.plainAttrs_dict F.slot_dict_values F.type_dict_values (thn (he.run pins s σ H _ I h) fun u s1 ⟨x, H1, I1, rx, d, kvs, ns, ex, hd, hv, q⟩ => ?_)
  subst ex
  obtain rfl : u = Value.ref d := rx
  obtain ⟨z, lo, vs, rel, dd⟩ := dk_rd I1.hok hd
  obtain ⟨ep, hat⟩ := dd.dictAt
  refine ⟨dd.typeIs, dd.mapOf.noDict, ?_⟩
  have hl : kvs.length = vs.length := Paired.length rel
  have hn : ns.length = kvs.length := by have := congrArg List.length hv; rw [List.length_map, List.length_map] at this; exact this.symm
  have I2 : Inv X pins σ H1 { s1 with heap := s1.heap.push { cls := .type "dict_values", data := .fields #[.ref d] } } := I1.kept (t' := s1.toks) fun b ob q => Heap.get?_push_of_some _ q
  have at_ : ∀ (i : Nat) (n : Int), ns[i]? = some n → (fun j => (ns[j]?).getD 0) i = n := fun i n hi => by
    show (ns[i]?).getD 0 = n
    rw [hi]; rfl
  show wpAny _ _ (callWith cpos (.builtin "dict.values") [.ref d] [] []) _ X.xe s1
  refine method_meetsIn F.slot_dict_values F.entry_dict_values rfl (PySem.evalArgs_none ⟨rfl, dd.typeIs, F.args_dict_values_1 _, _, meets_dict_values (mixKind X.prog X.w) d lo, ⟨vs, dd⟩, Calls.spliced_nil ?_⟩)
  refine PySem.W.kdu_sum0 (PySem.W.kdl_values (knd := mixKind X.prog X.w) (kvs := vs) (ep := ep)) (I1.ok.hd hc) ⟨⟨_, Heap.get?_push_size _ rfl, rfl, rfl⟩, ?_⟩ (fun j => (ns[j]?).getD 0) (fun i u hu => ?_) fun h' tk t' hk => ?_
  · exact hat.at fun o q => Heap.get?_push_of_some _ q
  · obtain ⟨k, hx⟩ := hu
    have hi : i < ns.length := by have := (List.getElem?_eq_some_iff.mp hx).1; omega
    obtain ⟨b, eb, rb⟩ := paired_get rel (List.getElem?_eq_getElem (show i < kvs.length by omega))
    rw [hx] at eb
    cases eb
    have e2 : (kvs.map (·.2))[i]? = (ns.map V.int)[i]? := by rw [hv]
    rw [List.getElem?_map, List.getElem?_map, List.getElem?_eq_getElem hi, List.getElem?_eq_getElem (show i < kvs.length by omega)] at e2
    have e3 : (kvs[i]'(by omega)).2 = V.int ns[i] := Option.some.inj e2
    have r2 := rb.2
    rw [e3] at r2
    obtain ⟨t, ht⟩ := r2
    refine ⟨t, ?_⟩
    show u = Value.int ((ns[i]?).getD 0) t
    rw [List.getElem?_eq_getElem hi]
    exact ht
  · have e : preSum (fun j => (ns[j]?).getD 0) vs.length = ns.sum := by
      rw [← hl, ← hn, preSum_ints ns _ at_ ns.length (Nat.le_refl _), List.take_length]
    rw [e]
    exact ⟨.int ns.sum, H1, I2.kept (t' := tk) hk, ⟨t', rfl⟩, q⟩
theorem ev_sumVals {Γ : Gm} {Ω : Om} {te : TE} {l : List (Str × Int)} (ha : DkS Γ Ω te (l.map fun p => (p.1, I p.2))) : Ev Γ Ω (tSumV te) (I (l.map (·.2)).sum) := fun Z F H σ c Q q =>
  ha Z F H σ c _ fun a F1 H1 c1 s1 hd => by
    obtain ⟨kvs, h1, h2⟩ := hd F1 H1 c1 (Same.refl _)
    have h3 := h2.vals
    rw [List.map_map] at h3
    have h4 : kvs.map (·.2) = (l.map (·.2)).map V.int := by
      have := all_map (g := fun p : Str × Int => p.2) (xs := l) (show All F1 (l.map fun x => I x.2) (kvs.map (·.2)) from h3)
      rw [this]
    exact ⟨a, kvs, _, rfl, h1, h4, q _ F1 H1 c1 s1 rfl⟩
/-! ## a def of a class, called by the class's name -/
structure Tf (K : PySem.W.Frag) (mg : Str → Option Value) (cn m qual : Str) (st : Stmt) (ps : List Str) : Prop where
  ex : ∃ D f fd, mg cn = some (.ref D) ∧ PySem.W.specialIn K (.ref D) "__getattribute__" = some (some (.builtin "type.__getattribute__")) ∧ PySem.W.readsIn K D (.type "type") = true ∧ PySem.W.findCls K (.ref D) (.type "type") m = some (.val (.ref f)) ∧ Fun K m qual st f fd ∧ Binds K fd ps []
structure Df (P : Program) (w : World) (K : PySem.W.Frag) (mg : Str → Option Value) (base : Heap) (k : Nat) (cn m : Str) (ps : List Str) (sp : Sp) : Prop where
  ex : ∃ D f fd, mg cn = some (.ref D) ∧ PySem.W.specialIn K (.ref D) "__getattribute__" = some (some (.builtin "type.__getattribute__")) ∧ PySem.W.readsIn K D (.type "type") = true ∧ PySem.W.findCls K (.ref D) (.type "type") m = some (.val (.ref f)) ∧ PySem.W.keepIn K (.ref f) = true ∧ Binds K fd ps [] ∧ FnOk P w K mg base (L2N.CX P w) k f fd ps sp
section
variable {P : Program} {w : World} {K : PySem.W.Frag} {mg : Str → Option Value} {base : Heap} {D : Addr} {cn m qual : Str} {st : Stmt} {N ps : List Str} {k : Nat} {sp : Sp} {dvs : List V}
theorem Tf.ok (T : Tf K mg cn m qual st ps) (S : FnScope N ps (defScope st)) (len : ∀ vs H Q E, sp vs H Q E → vs.length = ps.length)
    (hbody : ∀ (f : Addr) (cdv : Value) (A : Around) (outer : List Env) (s : Shared) (H : Hp) (vs : List V) (Q : VK) (E : XK), Room k (A.deeper (envOfC qual (defScope st) s.heap.objs.size f cdv)) → sp vs H Q E →
      ∃ t, PSs (cxOf CX0 P w K mg base N qual (defScope st) f cdv A outer s H E).nox (defBody st) t ∧ t { nx := fun _ H' => Q .non H', rt := Q } (L2.start N vs) H) : Df P w K mg base (k + 1) cn m ps sp := by
  obtain ⟨D, f, fd, h1, h2, h3, h4, F, b⟩ := T.ex
  exact ⟨D, f, fd, h1, h2, h3, h4, F.kp, b, FnOk_x (F.ok S len (hbody f))⟩
theorem tf_mk {f : Addr} {oc : Value} {od an : Option Addr} {osl : Array (Option Value)} {kV doc pm cdv ct : Value} {h : Heap} (X : K.In h) (G : h.Ns mainGlobals mg) (g : PySem.W.nsIn K mainGlobals cn = some (some (.ref D)))
    (ga : PySem.W.specialIn K (.ref D) "__getattribute__" = some (some (.builtin "type.__getattribute__"))) (rd : PySem.W.readsIn K D (.type "type") = true) (a : PySem.W.findCls K (.ref D) (.type "type") m = some (.val (.ref f)))
    (l : K.lookup f = some ⟨oc, od, .func (PySem.W.fnOf m qual (defArgs st) (defBody st) (defScope st) .none kV doc pm an cdv ct), osl⟩) (c : PySem.W.codeIn K cdv qual = true) (kk : PySem.W.keepIn K (.ref f) = true)
    (hb : ∀ (kV doc pm : Value) (an : Option Addr) (cdv ct : Value) (us : List Value), us.length = ps.length → bindArgs (PySem.W.fnOf m qual (defArgs st) (defBody st) (defScope st) .none kV doc pm an cdv ct) ⟨us, []⟩ = pure (ps.zip us)) : Tf K mg cn m qual st ps :=
  ⟨D, f, _, PySem.W.mg_of X G g, ga, rd, a, fun_mk l c kk, (fun_mk l c kk).binds hb⟩
section
variable {X : Cx} {p1 p pos apos : Pos} {e o : Expr} {es : List Expr} {t : TA}
theorem pe_df {pl : Sem Bool} (D : Df X.prog X.w X.K X.mg X.base k cn m ps sp) (hr : Room k X.A) (hg : Gl X cn) (ha : PA X (e :: es) t) (hdb : (cn == ("__debug__" : Str)) = false := by decide)
    (hst : starEach (e :: es) X.env = (false, eval e X.env) :: starEach es X.env := by rfl) (hpl : (backTo pos (starEach es X.env)).any (·.1) = false := by rfl)
    (ht : eval (.Call (.Attribute (.Name cn p1) m apos) (e :: es) [] pos) X.env = (do
      let ov ← eval (.Name cn p1) X.env
      standAt apos.atName
      let (f, first) ← holding [ov] (getMethod ov m pl)
      callWith pos f first (backTo pos (starEach (e :: es) X.env)) (backToKw pos (keywordEach [] X.env))) := by rfl) :
    PE X (.Call (.Attribute (.Name cn p1) m apos) (e :: es) [] pos) (tCall sp [] E0 t) := by
  obtain ⟨Da, f, fd, h1, h2, h3, h4, kp, b, G⟩ := D.ex
  refine ⟨fun pins s σ H Q I h => ?_⟩
  refine PySem.W.methodCall_KW (pl := pl) (ld_glob I hg h1 ?_ hdb) ht
  refine PySem.W.method_cls I.kIn h2 (PySem.W.cls_value I.kIn h3 h4 rfl ?_)
  have I2 := I.tok (s.toks + 1)
  refine PySem.W.callWith_K (first := []) (h₀ := X.base) I.ok.mod.kin kp (thn (ha.run pos pins _ σ H _ I2 h) fun us s1 ⟨vs, H1, I1, r, q⟩ => ⟨I1.kIn, ?_⟩) hst hpl
  exact run_fn G hr b .nil passL I1 r q
end
end
/-! ## texts -/
theorem isd_strs {K : PySem.W.Frag} (xs : List Str) : IsD K (Ls K (xs.map fun x => S x)) (.list (xs.map PyData.str)) := isd_lst (alld_map (fun _ => isd_str) xs)
theorem gd_strs {xs : List Str} (h : ∀ x ∈ xs, PyData.strOk x = true) : Gd 1 (.list (xs.map PyData.str)) := gd_list fun d hd => by
  obtain ⟨x, hx, e⟩ := List.mem_map.mp hd
  subst e
  exact ⟨by simp [PyData.canLay0, h x hx], Nat.le_refl _⟩
theorem eqv_strs (xs ys : List Str) : PyData.eqv (.list (xs.map PyData.str)) (.list (ys.map PyData.str)) = decide (xs = ys) := by
  have h : PyData.eqvAll (xs.map PyData.str) (ys.map PyData.str) = true ↔ xs = ys := eqv_map (fun x y => by simp [PyData.eqv]) xs ys
  have e : PyData.eqv (.list (xs.map PyData.str)) (.list (ys.map PyData.str)) = PyData.eqvAll (xs.map PyData.str) (ys.map PyData.str) := by simp [PyData.eqv]
  rw [e]
  by_cases q : xs = ys
  · rw [decide_eq_true q]; exact h.mpr q
  · rw [decide_eq_false q]; exact Bool.eq_false_iff.mpr fun z => q (h.mp z)
section
variable {Z : Bs} {F H F' H' : Hp} {σ σ' : L2.St} {Γ Γ' : Gm} {Ω Ω' Ωr : Om} {K : PySem.W.Frag} {te ta ti tl : TE} {n : L2.St → Hp → Prop} {r : VK} {bk ct : L2.St → Hp → Prop} {R : As} {Rs : List As} {p : Addr} {j : Nat}
theorem st_rev (c : Ctx Z F H σ Γ Ω) (h : Ev Γ Ω ta (Rf p)) (hm : Ω[j]? = some (p, oL Rs)) (k : ∀ F' H', Ctx Z F' H' σ Γ (Ω.set j (p, oL Rs.reverse)) → n σ H') (hw : Wr Z p) :
    tDrop (tBM0 K "list" rReverse ta) ⟨n, r, bk, ct⟩ σ H :=
  h Z F H σ c _ fun x F1 H1 c1 s1 rx => by
    cases rx
    obtain ⟨_, o, h2, ys, eo, hl⟩ := c1.own _ (List.mem_of_getElem? hm)
    subst eo
    exact ⟨.inl ⟨rfl, ys, SqL.of h2⟩, p, ys, rfl, rfl, h2, k F1 _ (c1.chg hm ⟨_, rfl, hl.rev⟩ hw)⟩
theorem rc_intB {b : Bool} : RC (fun xs H Q => (∃ i, xs = [.int i] ∧ Q (.int i) H) ∨ ∃ k, xs = [.bl k] ∧ Q (.int (if k then 1 else 0)) H) [B b] (I (if b then 1 else 0)) := fun F H vs s h Q q => by
  obtain ⟨v, rfl, e⟩ := h.one
  cases e
  exact .inr ⟨b, rfl, q _ F H (Ext.refl _ _ _) s rfl⟩
theorem ev_eqStrs {xs ys : List Str} (ha : Ev Γ Ω ta (Ls K (xs.map fun x => S x))) (hb : Ev Γ Ω te (Ls K (ys.map fun x => S x))) (h1 : ∀ x ∈ xs, PyData.strOk x = true) (h2 : ∀ x ∈ ys, PyData.strOk x = true) : Ev Γ Ω (tOp (rEqD K) ta te) (B (decide (xs = ys))) :=
  ev_is (ev_eqD ha hb (isd_strs xs) (isd_strs ys) (gd_strs h1) (gd_strs h2)) (congrArg (fun b : Bool => B b) (eqv_strs xs ys))
theorem ev_neStrs {xs ys : List Str} (ha : Ev Γ Ω ta (Ls K (xs.map fun x => S x))) (hb : Ev Γ Ω te (Ls K (ys.map fun x => S x))) (h1 : ∀ x ∈ xs, PyData.strOk x = true) (h2 : ∀ x ∈ ys, PyData.strOk x = true) : Ev Γ Ω (tOp (rNeD K) ta te) (B (!decide (xs = ys))) :=
  ev_is (ev_neD ha hb (isd_strs xs) (isd_strs ys) (gd_strs h1) (gd_strs h2)) (congrArg (fun b : Bool => B (!b)) (eqv_strs xs ys))
theorem eqv_strs_nil (xs : List Str) : PyData.eqv (.list (xs.map PyData.str)) (.list []) = xs.isEmpty := by
  have := eqv_strs xs []
  rw [List.map_nil] at this
  rw [this]
  cases xs <;> simp
/-- x == [], x a list of texts -/
theorem ev_cmpNilS {xs : List Str} (neg : Bool) (ha : Lk K Γ Ω ta (xs.map fun x => S x)) (hk : ∀ x ∈ xs, PyData.strOk x = true) : Ev Γ Ω (tOp (if neg then rNeD K else rEqD K) ta (tLst tNil)) (B (if neg then !xs.isEmpty else xs.isEmpty)) := fun Z F H σ c Q q =>
  ha Z F H σ c _ fun a F1 H1 c1 s1 hs => ⟨by decide, fun p hp => by
    obtain ⟨e2, s2⟩ := Ext.new (o := .lst []) c1.sub hp
    have c2 := c1.step e2 s2
    obtain ⟨ys, h2, hl⟩ := hs _ _ c2 e2.fe
    have d1 : Dp K (upd H1 p (.lst [])) (.ref a) (.list (xs.map PyData.str)) := .lst h2 (dpall (alld_map (fun _ => isd_str) xs) c2.sub hl)
    have d2 : Dp K (upd H1 p (.lst [])) (.ref p) (.list []) := .lst (SqL.of upd_same) .nil
    have sh1 := (gd_strs hk).shaped (by decide)
    have sh2 : SeqAt.shaped (.list []) = true := (gd_list (ds := []) (k := 0) fun d hd => absurd hd List.not_mem_nil).shaped (by decide)
    cases neg with
    | true => exact ⟨_, _, d1, d2, sh1, sh2, by rw [eqv_strs_nil]; exact q _ _ _ c2 (s1.trans e2) rfl⟩
    | false => exact ⟨_, _, d1, d2, sh1, sh2, by rw [eqv_strs_nil]; exact q _ _ _ c2 (s1.trans e2) rfl⟩⟩
theorem in_strs {x : Str} : ∀ {xs : List Str}, inV (.str x) (xs.map V.str) = decide (x ∈ xs)
  | [] => by simp [inV]
  | y :: xs => by
    have ih := in_strs (x := x) (xs := xs)
    unfold inV at ih ⊢
    rw [List.map_cons, List.any_cons, ih]
    by_cases h : y = x
    · subst h; simp [eqV]
    · have : ¬ x = y := fun z => h z.symm
      simp [eqV, h, this]
theorem flat_strs : ∀ {xs : List Str}, (xs.map V.str).all flatV = true
  | [] => rfl
  | _ :: _ => by rw [List.map_cons, List.all_cons, flat_strs]; rfl
theorem all_strV {F : Hp} : ∀ {xs : List Str} {ys : List V}, All F (xs.map fun x => S x) ys → ys = xs.map V.str
  | [], [], _ => rfl
  | x :: xs, y :: ys, ⟨h1, h2⟩ => by rw [show y = .str x from h1, all_strV h2]; rfl
  | [], _ :: _, h => h.elim
  | _ :: _, [], h => h.elim
/-- x in l, x not in l, l a list of texts -/
theorem ev_inStr {x : Str} {xs : List Str} (neg : Bool) (ha : Ev Γ Ω ta (S x)) (hb : Lk K Γ Ω te (xs.map fun x => S x)) : Ev Γ Ω (tOp (rIn K neg) ta te) (B (if neg then !decide (x ∈ xs) else decide (x ∈ xs))) := fun Z F H σ c Q q =>
  ha Z F H σ c _ fun v F1 H1 c1 s1 rv => hb Z F1 H1 σ c1 _ fun a F2 H2 c2 s2 hs => by
    cases rv
    obtain ⟨ys, h2, hl⟩ := hs F2 H2 c2 (Same.refl _)
    have e := all_strV hl
    subst e
    refine ⟨a, _, rfl, .inl h2, rfl, flat_strs, ?_⟩
    rw [in_strs]
    cases neg <;> exact q _ F2 H2 c2 (s1.trans s2) rfl
end
theorem srck_is {α : Type} {Kp : Om → Prop} {Γ : Gm} {Ω : Om} {wi : TI} {xs ys : List α} {f : α → As} (h : SrcK Kp Γ Ω wi xs f) (e : xs = ys) : SrcK Kp Γ Ω wi ys f := e ▸ h
theorem mem_at {Ω : Om} {j : Nat} {x : Addr × OA} (h : Ω[j]? = some x) : x ∈ Ω := List.mem_of_getElem? h
section
variable {Z : Bs} {F H F' H' : Hp} {σ σ' : L2.St} {Γ Γ' : Gm} {Ω Ω' Ωr : Om} {K : PySem.W.Frag} {te ta ti tl : TE} {n : L2.St → Hp → Prop} {r : VK} {bk ct : L2.St → Hp → Prop} {R : As} {Rs : List As} {p C dx : Addr} {j : Nat} {f : Str} {fs : List (Str × As)} {E : XK}
/-- o.f = e, where e changes what is owned -/
theorem em_fld (c : Ctx Z F H σ Γ Ω) (e : EvM Z Γ Ω te R Ω') (ha : Ev Γ Ω' ta (Rf p)) (hm : Ω'[j]? = some (p, oI C dx fs)) (hc : Cls K C) (hn : NoAttr K C f) (hl : fs.length < 1000) (k : ∀ F' H', Ctx Z F' H' σ Γ (Ω'.set j (p, oI C dx (putA f R fs))) → Same F F' → n σ H') (hw : Wr Z p) :
    sFld K ta te f ⟨n, r, bk, ct⟩ σ H :=
  e F H σ c _ fun y F1 H1 c1 s1 ry => ha Z F1 H1 σ c1 _ fun x F2 H2 c2 s2 rx => by
  cases rx
  obtain ⟨_, o, h2, vs, eo, ha⟩ := c2.own _ (List.mem_of_getElem? hm)
  subst eo
  refine ⟨p, C, dx, vs, rfl, h2, hc, hn, by rw [ha.length]; exact hl, ?_⟩
  exact k F2 _ (c2.chg hm ⟨_, rfl, ha.put (R.mono s2.fe ry)⟩ hw) (s1.trans s2.fe)
/-- a def called by its name that changes what is owned, and hands out more -/
theorem cl_G {α β : Type} {args : α → List As} {Oi : α → Om} {pre : α → Prop} {post : α → β → Prop} {res : α → β → As} {Oo : α → β → Om} {t : TA} {Q : VK} (a : α) (c : Ctx Z F H σ Γ Ω) (h : EvA Γ Ω t (args a)) (hs : Ω.Perm (Oi a ++ Ωr)) (hp : pre a) (hw : ∀ x ∈ (Oi a).map (·.1), Wr Z x)
    (k : ∀ b v F' H', post a b → Ctx Z F' H' σ Γ (Oo a b ++ Ωr) → Same F F' → (res a b).p F' v → Q v H') : tCall (CtG args Oi pre post res Oo) [] E t σ H Q :=
  h Z F H σ c _ fun vs F1 H1 c1 s1 rs => by
    have cp := c1.perm hs
    have nd := cp.nd
    rw [List.map_append, List.nodup_append] at nd
    exact ⟨a, F1, cp.sub, by rw [List.append_nil]; exact rs, cp.own.sub fun x hx => List.mem_append_left _ hx, nd.1, hp, fun b v F3 H3 hb e3 s3 rv ow nd2 hn => k b v F3 H3 hb (cp.changedG e3 s3 ow nd2 hn hw) (s1.fe.trans e3.fe) rv⟩
theorem wr_sub {l : List Addr} (h : ∀ x ∈ l, Wr Z x) {x : Addr} (hx : x ∈ l) : Wr Z x := h x hx
end
end Y

namespace Y
open PySem L2
section
variable {Z : Bs} {F H F' H' : Hp} {σ σ' : L2.St} {Γ Γ' : Gm} {Ω Ω' Ωr : Om} {K : PySem.W.Frag} {te ta tb ti tl : TE} {tt : TT} {n : L2.St → Hp → Prop} {r : VK} {bk ct : L2.St → Hp → Prop} {R : As} {Rs : List As} {p : Addr} {j : Nat}
/-! texts that may be missing -/
def oV : Option Str → V
  | none => .non
  | some x => .str x
theorem op_oV {o : Option Str} {F : Hp} {v : V} (h : (Op (fun x => S x) o).p F v) : v = oV o := by
  cases o <;> exact h
theorem ev_eqOS {o : Option Str} {y : Str} (ha : Ev Γ Ω ta (Op (fun x => S x) o)) (hb : Ev Γ Ω tb (S y)) : Ev Γ Ω (tOp rEq ta tb) (B (decide (o = some y))) := ev_op ha hb fun F H v w s e e' Q q => by
  have e := op_oV e
  cases e'
  subst e
  refine ⟨by cases o <;> rfl, ?_⟩
  have z : decide (oV o = V.str y) = decide (o = some y) := by
    cases o with
    | none => simp [oV]
    | some x => simp [oV]
  rw [z]
  exact q _ F H (Ext.refl _ _ _) s rfl
theorem ev_neOS {o : Option Str} {y : Str} (ha : Ev Γ Ω ta (Op (fun x => S x) o)) (hb : Ev Γ Ω tb (S y)) : Ev Γ Ω (tOp rNe ta tb) (B (!decide (o = some y))) := ev_op ha hb fun F H v w s e e' Q q => by
  have e := op_oV e
  cases e'
  subst e
  refine ⟨by cases o <;> rfl, ?_⟩
  have z : decide (oV o = V.str y) = decide (o = some y) := by
    cases o with
    | none => simp [oV]
    | some x => simp [oV]
  rw [z]
  exact q _ F H (Ext.refl _ _ _) s rfl
/-- x.remove(e), x an owned list of texts -/
theorem st_remS {xs : List Str} {k0 : Nat} {y : Str} (hok : ∀ x ∈ xs, PyData.strOk x = true) (hoy : PyData.strOk y = true) (c : Ctx Z F H σ Γ Ω) (h : Ev Γ Ω ta (Rf p)) (hm : Ω[j]? = some (p, oL (xs.map fun x => S x))) (e : Ev Γ Ω te (S y)) (h0 : xs[k0]? = some y) (h1 : ∀ m < k0, xs[m]? ≠ some y) (hw : Wr Z p) (k : ∀ F' H', Ctx Z F' H' σ Γ (Ω.set j (p, oL ((xs.eraseIdx k0).map fun x => S x))) → Same F F' → n σ H') :
    tDrop (tBM K "list" (rRemD K) ta (tCons te tNil)) ⟨n, r, bk, ct⟩ σ H :=
  h Z F H σ c _ fun v F1 H1 c1 s1 rv => by
    cases rv
    obtain ⟨_, o, h2, zs, eo, hx⟩ := c1.own _ (List.mem_of_getElem? hm)
    refine ⟨.inl ⟨rfl, _, SqL.of (by rw [h2, eo])⟩, ?_⟩
    refine e Z F1 H1 σ c1 _ fun w F2 H2 c2 s2 rw' => ?_
    obtain ⟨_, o, h2, zs, eo, hx⟩ := c2.own _ (List.mem_of_getElem? hm)
    have hs : ∀ x, IsD K (S x) (PyData.str x) := fun x => isd_str
    refine ⟨p, zs, w, xs.map PyData.str, .str y, k0, rfl, rfl, by rw [h2, eo], dpall (alld_map hs xs) c2.sub hx, (hs y).dp F2 H2 w c2.sub rw', ?_, ?_, ⟨.str y, by rw [List.getElem?_map, h0]; rfl, by simp [PyData.eqv]⟩, ?_, ?_⟩
    · intro q hq
      obtain ⟨z, hz, ez⟩ := List.mem_map.mp hq
      rw [← ez]
      exact ⟨by simp [PyData.canLay0, hok z hz], Nat.zero_le _⟩
    · exact ⟨by simp [PyData.canLay0, hoy], Nat.zero_le _⟩
    · intro m hm2 q hq
      rw [List.getElem?_map] at hq
      obtain ⟨z, hz, ez⟩ := Option.map_eq_some_iff.mp hq
      rw [← ez]
      cases e2 : (PyData.str z).eqv (.str y) with
      | false => rfl
      | true =>
        have : z = y := by simpa [PyData.eqv] using e2
        exact absurd (by rw [hz, this]) (h1 m hm2)
    · refine k F2 _ (c2.chg hm ⟨_, rfl, ?_⟩ hw) (s1.fe.trans s2.fe)
      rw [← map_eraseIdx]
      exact All.erase k0 hx
/-- an owned list, its items told, while an expression runs -/
theorem Ctx.fix (c : Ctx Z F H σ Γ Ω) (hm : Ω[j]? = some (p, oL Rs)) : ∃ ys, Ctx Z F H σ Γ (Ω.set j (p, oX ys Rs)) := by
  obtain ⟨hf, o0, h0, ys, e0, hx⟩ := c.own _ (List.mem_of_getElem? hm)
  dsimp only at hf h0
  refine ⟨ys, c.sat, c.sub, fun x hx2 => ?_, own_nd c hm, fun x hx2 => ?_, c.ext, c.pin⟩
  · rcases own_look c hm x hx2 with z | ⟨hx2, z⟩
    · subst z; exact ⟨hf, o0, h0, e0, hx⟩
    · exact c.own x hx2
  · rcases own_look c hm x hx2 with z | ⟨hx2, z⟩
    · have z2 : x.1 = p := by rw [z]
      rw [z2]; exact c.loc _ (List.mem_of_getElem? hm)
    · exact c.loc x hx2
theorem set_back {A : OA} (hm : Ω[j]? = some (p, oL Rs)) : (Ω.set j (p, A)).set j (p, oL Rs) = Ω := by
  have hj : j < Ω.length := (List.getElem?_eq_some_iff.mp hm).1
  rw [List.set_set]
  refine List.ext_getElem? fun i => ?_
  by_cases z : j = i
  · subst z; rw [List.getElem?_set_self hj, hm]
  · rw [List.getElem?_set_ne z]
theorem Ctx.unfix {ys : List V} (hm : Ω[j]? = some (p, oL Rs)) (c : Ctx Z F H σ Γ (Ω.set j (p, oX ys Rs))) : Ctx Z F H σ Γ Ω := by
  have hj : j < Ω.length := (List.getElem?_eq_some_iff.mp hm).1
  have := c.recast (B := oL Rs) (j := j) (List.getElem?_set_self hj) (fun o h => ⟨ys, h.1, h.2⟩)
  rw [set_back hm] at this
  exact this
theorem ev_fix (hm : Ω[j]? = some (p, oL Rs)) (h : ∀ ys, Ev Γ (Ω.set j (p, oX ys Rs)) te R) : Ev Γ Ω te R := fun Z F H σ c Q q => by
  obtain ⟨ys, c1⟩ := c.fix hm
  exact h ys Z F H σ c1 Q fun v F1 H1 c2 s1 rv => q v F1 H1 (c2.unfix hm) s1 rv
end
theorem idx_first {y : Str} : ∀ {xs : List Str}, y ∈ xs → ∃ k0, xs[k0]? = some y ∧ (∀ m < k0, xs[m]? ≠ some y) ∧ xs.eraseIdx k0 = xs.erase y
  | [], h => absurd h List.not_mem_nil
  | x :: xs, h => by
    by_cases e : x = y
    · subst e
      exact ⟨0, rfl, fun m hm => absurd hm (Nat.not_lt_zero _), by rw [List.erase_cons_head]; rfl⟩
    · have h' : y ∈ xs := (List.mem_cons.mp h).resolve_left (fun z => e z.symm)
      obtain ⟨k, h1, h2, h3⟩ := idx_first h'
      refine ⟨k + 1, h1, fun m hm => ?_, ?_⟩
      · cases m with
        | zero => intro z; exact e (Option.some.inj z)
        | succ m => exact h2 m (by omega)
      · rw [List.erase_cons_tail (by simpa using e), ← h3]; rfl
/-! sorted of texts -/
def leS (x y : Str) : Prop := PySem.Spec.ltCps y.cps.toList x.cps.toList = false
theorem lt_irr : ∀ a b : List Nat, PySem.Spec.ltCps a b = false → PySem.Spec.ltCps b a = false → a = b
  | [], [], _, _ => rfl
  | [], _ :: _, h, _ => by cases h
  | _ :: _, [], _, h => by cases h
  | a :: r, b :: t, h1, h2 => by
    have h1 : (decide (a < b) || (a == b && PySem.Spec.ltCps r t)) = false := h1
    have h2 : (decide (b < a) || (b == a && PySem.Spec.ltCps t r)) = false := h2
    obtain ⟨p1, p2⟩ := Bool.or_eq_false_iff.mp h1
    obtain ⟨q1, q2⟩ := Bool.or_eq_false_iff.mp h2
    have e : a = b := by have := of_decide_eq_false p1; have := of_decide_eq_false q1; omega
    subst e
    rw [lt_irr r t (by simpa using p2) (by simpa using q2)]
theorem lt_tr : ∀ a b c : List Nat, PySem.Spec.ltCps b a = false → PySem.Spec.ltCps c b = false → PySem.Spec.ltCps c a = false
  | [], [], _, _, h => h
  | [], _ :: _, [], _, _ => rfl
  | [], b :: t, c :: u, h1, h2 => by
    show false = false
    rfl
  | a :: r, [], _, h, _ => by cases h
  | a :: r, b :: t, [], _, h => by cases h
  | a :: r, b :: t, c :: u, h1, h2 => by
    have h1 : (decide (b < a) || (b == a && PySem.Spec.ltCps t r)) = false := h1
    have h2 : (decide (c < b) || (c == b && PySem.Spec.ltCps u t)) = false := h2
    obtain ⟨p1, p2⟩ := Bool.or_eq_false_iff.mp h1
    obtain ⟨q1, q2⟩ := Bool.or_eq_false_iff.mp h2
    have a1 := of_decide_eq_false p1
    have a2 := of_decide_eq_false q1
    show (decide (c < a) || (c == a && PySem.Spec.ltCps u r)) = false
    rw [decide_eq_false (by omega), Bool.false_or]
    by_cases e : c = a
    · subst e
      have e2 : b = c := by omega
      subst e2
      have := lt_tr r t u (by simpa using p2) (by simpa using q2)
      simp [this]
    · simp [e]
theorem rising_pw : ∀ (l : List Str) (p : Str), PyProof.Rows.risingS p l = true → (p :: l).Pairwise leS
  | [], p, _ => List.pairwise_singleton _ _
  | x :: l, p, h => by
    have h : (!PySem.Spec.ltCps x.cps.toList p.cps.toList && PyProof.Rows.risingS x l) = true := h
    obtain ⟨h1, h2⟩ := Bool.and_eq_true_iff.mp h
    have h1 : PySem.Spec.ltCps x.cps.toList p.cps.toList = false := by simpa using h1
    have ih := rising_pw l x h2
    refine List.pairwise_cons.mpr ⟨fun y hy => ?_, ih⟩
    rcases List.mem_cons.mp hy with z | z
    · subst z; exact h1
    · exact lt_tr _ _ _ h1 ((List.pairwise_cons.mp ih).1 y z)
theorem sorted_pw {l : List Str} (h : PyProof.Rows.sortedS l = true) : l.Pairwise leS := by
  cases l with
  | nil => exact List.Pairwise.nil
  | cons x l => exact rising_pw l x h
theorem str_ext {x y : Str} (h : x.cps.toList = y.cps.toList) : x = y := by
  obtain ⟨⟨a⟩⟩ := x
  obtain ⟨⟨b⟩⟩ := y
  have h : a = b := h
  rw [h]
theorem strs_eq {a b : List Str} (h : a.Perm b) (h1 : PyProof.Rows.sortedS a = true) (h2 : PyProof.Rows.sortedS b = true) : a = b :=
  List.Perm.eq_of_pairwise (fun x y _ _ h h' => str_ext (lt_irr _ _ h' h)) (sorted_pw h1) (sorted_pw h2) h
section
variable {Γ : Gm} {Ω : Om} {K : PySem.W.Frag} {te : TE} {ta tb : TA}
abbrev rSortedDS : List V → Hp → VK → Prop := fun xs H Q => ∃ (a : Addr) (kvs : List (Key × V)) (ks : List Str), xs = [.ref a] ∧ Rd H a (.dK kvs) ∧ kvs.map (·.1) = ks.map Sum.inr ∧ ks.length < 64 ∧ ∀ ys p, ys.Perm ks → PyProof.Rows.sortedS ys = true → H p = none → Q (.ref p) (upd H p (.lst (ys.map V.str)))
theorem AllS.ks {F : Hp} : ∀ {l : List (Str × As)} {kvs : List (Key × V)}, AllS F l kvs → kvs.map (·.1) = (l.map (·.1)).map Sum.inr
  | [], [], _ => rfl
  | (i, R) :: l, (q, v) :: kvs, ⟨h1, h2, h3⟩ => by
    subst h1
    rw [List.map_cons, List.map_cons, List.map_cons, AllS.ks h3]
  | [], _ :: _, h => h.elim
  | _ :: _, [], h => h.elim
/-- sorted(l) and sorted(d) are alike, where l and the keys of d are some order of one another: as values -/
def Srt (K : PySem.W.Frag) (xs : List Str) : As := Xs (fun ys : List Str => ys.Perm xs ∧ PyProof.Rows.sortedS ys = true) (fun ys => Ls K (ys.map fun y => S y))
theorem ev_sortedS {xs : List Str} (ha : Lk K Γ Ω te (xs.map fun x => S x)) (hl : xs.length < 64) : Ev Γ Ω (tCB (rSortedS K) (tCons te tNil)) (Srt K xs) := fun Z F H σ c Q q =>
  ha Z F H σ c _ fun a F1 H1 c1 s1 hs => by
    obtain ⟨ys, h2, hx⟩ := hs F1 H1 c1 (Same.refl _)
    have e := all_strV hx
    subst e
    refine ⟨a, xs, rfl, h2, hl, fun ys p hp hw hn => ?_⟩
    obtain ⟨e, s⟩ := Ext.new (o := .lst (ys.map V.str)) c1.sub hn
    exact q _ _ _ (c1.step e s) (s1.trans e) ⟨ys, ⟨hp, hw⟩, p, _, rfl, SqL.of upd_same, all_strs⟩
theorem ev_sortedDS {l : List (Str × As)} (ha : DkS Γ Ω te l) (hl : l.length < 64) : Ev Γ Ω (tCB rSortedDS (tCons te tNil)) (Srt K (l.map (·.1))) := fun Z F H σ c Q q =>
  ha Z F H σ c _ fun a F1 H1 c1 s1 hd => by
    obtain ⟨kvs, h1, h2⟩ := hd F1 H1 c1 (Same.refl _)
    refine ⟨a, kvs, l.map (·.1), rfl, h1, h2.ks, by rw [List.length_map]; exact hl, fun ys p hp hw hn => ?_⟩
    obtain ⟨e, s⟩ := Ext.new (o := .lst (ys.map V.str)) c1.sub hn
    exact q _ _ _ (c1.step e s) (s1.trans e) ⟨ys, ⟨hp, hw⟩, p, _, rfl, SqL.of upd_same, all_strs⟩
/-- a == b, a != b of such -/
theorem ev_srt {t1 t2 : TE} {xs zs : List Str} (neg : Bool) (h1 : Ev Γ Ω t1 (Srt K xs)) (h2 : Ev Γ Ω t2 (Srt K zs)) (hp : xs.Perm zs) (hok : ∀ x ∈ xs, PyData.strOk x = true) : Ev Γ Ω (tOp (if neg then rNeD K else rEqD K) t1 t2) (B (!neg)) := fun Z F H σ c Q q =>
  h1 Z F H σ c _ fun v F1 H1 c1 s1 rv => h2 Z F1 H1 σ c1 _ fun w F2 H2 c2 s2 rw' => by
    obtain ⟨ys, ⟨p1, o1⟩, rv⟩ := rv
    obtain ⟨us, ⟨p2, o2⟩, ru⟩ := rw'
    have e : ys = us := strs_eq (p1.trans (hp.trans p2.symm)) o1 o2
    subst e
    have d1 := (isd_strs (K := K) ys).dp F2 H2 v c2.sub ((Ls K (ys.map fun y => S y)).mono s2.fe rv)
    have d2 := (isd_strs (K := K) ys).dp F2 H2 w c2.sub ru
    have g := gd_strs (xs := ys) fun x hx => hok x (p1.subset hx)
    have ee : PyData.eqv (.list (ys.map PyData.str)) (.list (ys.map PyData.str)) = true := by rw [eqv_strs]; simp
    cases neg with
    | true => exact ⟨_, _, d1, d2, g.shaped (by decide), g.shaped (by decide), by rw [ee]; exact q _ F2 H2 c2 (s1.trans s2) rfl⟩
    | false => exact ⟨_, _, d1, d2, g.shaped (by decide), g.shaped (by decide), by rw [ee]; exact q _ F2 H2 c2 (s1.trans s2) rfl⟩
end
end Y

namespace Y
open PySem L2 PySem.Spec
open PyProof.Rows (envOfC)
/-! ## defs called while an exception is handled -/
structure DnH (P : Program) (w : World) (K : PySem.W.Frag) (mg : Str → Option Value) (base : Heap) (k : Nat) (x : Str) (ps : List Str) (sp : Sp) : Prop where
  ex : ∃ f fd, mg x = some (.ref f) ∧ PySem.W.keepIn K (.ref f) = true ∧ Binds K fd ps [] ∧ L2H.FnH P w K mg base CX0 k f fd ps sp
section
variable {P : Program} {w : World} {K : PySem.W.Frag} {mg : Str → Option Value} {base : Heap}
theorem Tx.okH {x : Str} {st : Stmt} {N ps : List Str} {k : Nat} {sp : Sp} (T : Tx K mg x st ps) (S : FnScope N ps (defScope st)) (len : ∀ vs H Q E, sp vs H Q E → vs.length = ps.length)
    (hbody : ∀ (f : Addr) (cdv : Value) (A : Around) (outer : List Env) (s : Shared) (H : Hp) (vs : List V) (Q : VK) (E : XK) (p : Addr × Obj), L2H.HotC (L2H.cxH CX0 P w K mg base N x (defScope st) f cdv A outer s H E p) → L2H.RoomH k (A.deeper (envOfC x (defScope st) s.heap.objs.size f cdv)) → sp vs H Q E →
      ∃ t, PSs (L2H.cxH CX0 P w K mg base N x (defScope st) f cdv A outer s H E p) (defBody st) t ∧ t { nx := fun _ H' => Q .non H', rt := Q } (L2.start N vs) H) : DnH P w K mg base (k + 1) x ps sp := by
  obtain ⟨f, fd, F, m, b⟩ := T.ex
  have F' := F
  obtain ⟨oc, od, kV, doc, pm, an, cdv, ct, osl, e, lk, hcd⟩ := F.ex
  subst e
  exact ⟨f, _, m, F'.kp, b, L2H.fn_ofH lk hcd S len fun A outer s H vs Q E p hot hr hsp => hbody f cdv A outer s H vs Q E p ⟨p, ⟨hot.1, hot.2⟩, List.mem_singleton.mpr rfl⟩ hr hsp⟩
end
theorem roomH_mark {k : Nat} {A : Around} (r : Room k A) (h : Option Value) : L2H.RoomH k (A.mark h) := ⟨r.dp, r.un⟩
theorem _root_.L2H.RoomH.units {k : Nat} {A : Around} (r : L2H.RoomH k A) : A.units + 64 < cLine := by have := r.un; omega
section
variable {X : Cx} {k : Nat} {ps : List Str} {sp : Sp} {x : Str} {p pos : Pos} {e : Expr} {es : List Expr} {t : TA}
theorem hotc_suite {a : Addr} {oe : Obj} {cls : Value} {d : Option Addr} {pn : List (Addr × Obj)} (hz : L2N.Zn cls d oe) (hf : ∃ vs, oe.data = .fields vs) : L2H.HotC (X.suite a ((a, oe) :: pn)) := by
  obtain ⟨vs, e⟩ := hf
  exact ⟨(a, oe), ⟨rfl, vs, e, hz.2.2 vs e⟩, List.mem_cons_self⟩
theorem pe_dH (hc : L2H.HotC X) (D : DnH X.prog X.w X.K X.mg X.base k x ps sp) (hr : L2H.RoomH k X.A) (hg : Gl X x) (ha : PA X (e :: es) t) (hdb : (x == ("__debug__" : Str)) = false := by decide)
    (he : starEach (e :: es) X.env = (false, eval e X.env) :: starEach es X.env := by rfl) (hpl : (backTo pos (starEach es X.env)).any (·.1) = false := by rfl) :
    PE X (.Call (.Name x p) (e :: es) [] pos) (tCall sp [] E0 t) := by
  obtain ⟨f, fd, m, kp, b, G⟩ := D.ex
  have z := L2H.pe_callH (q := p) (E := fun _ => E0) G hr hc hg m kp b (fun σ pins H s e s' I h => False.elim h) ha hdb he hpl
  have e1 : tCall sp [] E0 t = tCallS sp (fun _ => E0) t := by
    funext σ H Q
    show (t σ H fun vs H1 => sp (vs ++ []) H1 Q E0) = (t σ H fun vs H1 => sp vs H1 Q E0)
    simp only [List.append_nil]
  rw [e1]; exact z
end
/-! ## dicts compared -/
section
variable {Γ : Gm} {Ω : Om} {ta tb : TE} {p1 p2 : Addr} {j1 j2 : Nat}
/-- d != {}, d empty -/
theorem ev_neD0 (ha : Ev Γ Ω ta (Dc [])) : Ev Γ Ω (tOp rNeDA ta tDNewK) (B false) := fun Z F H σ c Q q =>
  ha Z F H σ c _ fun v F1 H1 c1 s1 rv => by
    obtain ⟨a, kvs, e, h1, h2⟩ := rv
    subst e
    have e0 : kvs = [] := by
      cases kvs with
      | nil => rfl
      | cons x l => exact h2.elim
    subst e0
    intro p hp
    have hne : a ≠ p := fun z => by
      have := c1.sub _ _ h1
      rw [z, hp] at this
      cases this
    exact ⟨a, p, [], [], rfl, rfl, by rw [upd_ne hne]; exact c1.sub _ _ h1, upd_same, rfl, fun x hx => absurd hx List.not_mem_nil, q _ F1 _ ((c1.grow (A := oD []) hp ⟨[], rfl, trivial⟩).tail) (s1.trans (Ext.newH hp)) rfl⟩
theorem allS_int {F : Hp} : ∀ {l : List (Str × Int)} {kvs : List (Key × V)}, AllS F (l.map fun x => (x.1, I x.2)) kvs → kvs = l.map fun x => (Sum.inr x.1, V.int x.2)
  | [], [], _ => rfl
  | x :: l, (q, v) :: kvs, ⟨h1, h2, h3⟩ => by
    have h2 : v = V.int x.2 := h2
    rw [h1, h2, allS_int h3]; rfl
  | [], _ :: _, h => h.elim
  | _ :: _, [], h => h.elim
theorem valV_int {k : Str} {v : Int} : ∀ {l : List (Str × Int)}, getS k l = some v → valV (l.map fun x => ((Sum.inr x.1 : Key), V.int x.2)) (.inr k) = some (V.int v)
  | [], h => by cases h
  | (i, x) :: l, h => by
    have h : (if i = k then some x else getS k l) = some v := h
    rw [List.map_cons]
    by_cases e : i = k
    · rw [if_pos e] at h
      cases h
      exact valV_pos (congrArg Sum.inr e)
    · rw [if_neg e] at h
      rw [valV_neg (fun z => e (Sum.inr.inj z))]
      exact valV_int h
/-- d == e, of texts and whole numbers, alike -/
theorem ev_eqSS {l1 l2 : List (Str × Int)} (h1 : Ev Γ Ω ta (Rf p1)) (m1 : Ω[j1]? = some (p1, oS (l1.map fun x => (x.1, I x.2)))) (h2 : Ev Γ Ω tb (Rf p2)) (m2 : Ω[j2]? = some (p2, oS (l2.map fun x => (x.1, I x.2)))) (hl : l1.length = l2.length) (hh : ∀ x ∈ l1, getS x.1 l2 = some x.2) : Ev Γ Ω (tOp rEqDA ta tb) (B true) := fun Z F H σ c Q q =>
  h1 Z F H σ c _ fun v F1 H1 c1 s1 rv => h2 Z F1 H1 σ c1 _ fun w F2 H2 c2 s2 rw' => by
    cases rv
    cases rw'
    obtain ⟨_, o, e1, k1, eo1, a1⟩ := c2.own _ (List.mem_of_getElem? m1)
    obtain ⟨_, o', e2, k2, eo2, a2⟩ := c2.own _ (List.mem_of_getElem? m2)
    subst eo1 eo2
    have z1 := allS_int a1
    have z2 := allS_int a2
    subst z1 z2
    refine ⟨p1, p2, _, _, rfl, rfl, e1, e2, by rw [List.length_map, List.length_map, hl], fun y hy => ?_, q _ F2 H2 c2 (s1.trans s2) rfl⟩
    obtain ⟨x, hx, ex⟩ := List.mem_map.mp hy
    subst ex
    exact ⟨valV_int (hh x hx), rfl⟩
end
section
variable {Γ : Gm} {Ω : Om} {ta tb te : TE}
theorem ev_sub {R R' : As} (h : Ev Γ Ω te R) (k : ∀ F v, R.p F v → R'.p F v) : Ev Γ Ω te R' := fun Z F H σ c Q q => h Z F H σ c Q fun v F1 H1 c1 s1 r => q v F1 H1 c1 s1 (k F1 v r)
/-- f(e), e some member of a family -/
theorem ev_callXs {α : Type} {P : α → Prop} {Rb : α → As} {args : α → List As} {pre : α → Prop} {res : α → As} {E : XK} {R : As} (h : Ev Γ Ω ta (Xs P Rb)) (ha : ∀ a, args a = [Rb a]) (hp : ∀ a, P a → pre a) (hr : ∀ a, res a = R) : Ev Γ Ω (tCall (CtF args pre res) [] E (tCons ta tNil)) R := fun Z F H σ c Q q =>
  h Z F H σ c _ fun v F1 H1 c1 s1 ⟨a, pa, rv⟩ => ⟨a, F1, c1.sub, by rw [ha]; exact ⟨rv, trivial⟩, hp a pa, fun v F2 H2 e2 s2 r => q v F2 H2 (c1.step e2 s2) (s1.trans e2) (by rw [← hr a]; exact r)⟩
end
/-! ## l + m -/
/-- an expression whose value is a new list, known as such -/
def Lw (Γ : Gm) (Ω : Om) (te : TE) (Rs : List As) : Prop := ∀ (Z : Bs) (F H : Hp) (σ : L2.St), Ctx Z F H σ Γ Ω → ∀ Q : VK, (∀ a F' H', Ctx Z F' H' σ Γ Ω → Ext [] F H F' H' → (∃ xs, F' a = some (.lst xs) ∧ All F' Rs xs) → Q (.ref a) H') → te σ H Q
section
variable {Γ : Gm} {Ω : Om} {K : PySem.W.Frag} {ta tb te : TE} {Rs Ss : List As}
theorem lw_is (h : Lw Γ Ω te Rs) (e : Rs = Ss) : Lw Γ Ω te Ss := e ▸ h
theorem new_lw {Z : Bs} {F H : Hp} {σ : L2.St} {p : Addr} {xs : List V} (c : Ctx Z F H σ Γ Ω) (hl : All F Rs xs) (hp : H p = none) : ∃ F' H', H' = upd H p (.lst xs) ∧ Ctx Z F' H' σ Γ Ω ∧ Ext [] F H F' H' ∧ ∃ ys, F' p = some (.lst ys) ∧ All F' Rs ys := by
  obtain ⟨e, s⟩ := Ext.new (o := .lst xs) c.sub hp
  exact ⟨_, _, rfl, c.step e s, e, xs, upd_same, hl.mono e.fe⟩
theorem lw_lst {ta : TA} (h : EvA Γ Ω ta Rs) (hl : Rs.length ≤ 1000 := by decide) : Lw Γ Ω (tLst ta) Rs := fun Z F H σ c Q q =>
  h Z F H σ c _ fun vs F1 H1 c1 s1 rs => ⟨by rw [rs.length]; exact Nat.le_of_lt (small1000 hl), fun p hp => by
    obtain ⟨F2, H2, e, c2, s2, r⟩ := new_lw c1 rs hp
    rw [← e]
    exact q p F2 H2 c2 (s1.trans s2) r⟩
theorem lw_sl {tl th : TO} {lo hi : Option Int} (ha : Lk K Γ Ω ta Rs) (h1 : EvO Γ Ω tl lo) (h2 : EvO Γ Ω th hi) : Lw Γ Ω (tSl (rSlL K) ta tl th) (cutA Rs lo hi) := fun Z F H σ c Q q =>
  ha Z F H σ c _ fun a F1 H1 c1 s1 hs => h1 Z F1 H1 σ c1 _ fun F2 H2 c2 s2 => h2 Z F2 H2 σ c2 _ fun F3 H3 c3 s3 => by
    obtain ⟨xs, hs1, hl⟩ := hs F3 H3 c3 (s2.trans s3).fe
    refine ⟨a, xs, rfl, hs1, fun p hp => ?_⟩
    have hz : All F3 (cutA Rs lo hi) (cutV xs lo hi) := by
      unfold cutA cutV
      rw [hl.length]
      exact (hl.drop _).take _
    obtain ⟨F4, H4, e, c4, s4, r⟩ := new_lw c3 hz hp
    rw [← e]
    exact q p F4 H4 c4 (s1.trans (s2.trans (s3.trans s4))) r
theorem lw_cat (ha : Lw Γ Ω ta Rs) (hb : Lw Γ Ω tb Ss) (hn : Rs.length + Ss.length ≤ 1000000) : Lw Γ Ω (tOp rCat ta tb) (Rs ++ Ss) := fun Z F H σ c Q q =>
  ha Z F H σ c _ fun a F1 H1 c1 s1 ⟨xs, e1, l1⟩ => hb Z F1 H1 σ c1 _ fun b F2 H2 c2 s2 ⟨ys, e2, l2⟩ => by
    have l1' := l1.mono s2.fe
    refine ⟨a, b, xs, ys, rfl, rfl, c2.sub _ _ (s2.fe _ _ e1), c2.sub _ _ e2, by rw [← l1.length, ← l2.length] at *; exact Nat.le_trans hn (by decide), fun p hp => ?_⟩
    obtain ⟨F3, H3, e, c3, s3, r⟩ := new_lw c2 (l1'.app l2) hp
    rw [← e]
    exact q p F3 H3 c3 (s1.trans (s2.trans s3)) r
theorem ev_lw (h : Lw Γ Ω te Rs) : Ev Γ Ω te (Ls K Rs) := fun Z F H σ c Q q => h Z F H σ c Q fun a F1 H1 c1 s1 ⟨xs, e, l⟩ => q _ F1 H1 c1 s1 ⟨a, xs, rfl, SqL.of e, l⟩
theorem ev_cat (ha : Lw Γ Ω ta Rs) (hb : Lw Γ Ω tb Ss) (hn : Rs.length + Ss.length ≤ 1000000) : Ev Γ Ω (tOp rCat ta tb) (Ls K (Rs ++ Ss)) := ev_lw (lw_cat ha hb hn)
end
/-! ## defs that are handed the exception that is handled -/
structure FnHa (P : Program) (w : World) (K : PySem.W.Frag) (mg : Str → Option Value) (base : Heap) (k : Nat) (f : Addr) (fd : FuncData) (ps : List Str) (sp : Addr → Value → Option Addr → Sp) : Prop where
  len : ∀ a cls d vs H Q E, sp a cls d vs H Q E → vs.length = ps.length
  run : ∀ (A : Around) (outer : List Env) (s : Shared) (H : Hp) (args : Args) (us : List Value) (vs : List V) (Q : VK) (E : XK) (p : Addr × Obj) (cls : Value) (d : Option Addr), L2H.RoomH k A → L2H.Hot1 A p → L2N.Zn cls d p.2 → L2H.PinOk outer H s p → Env0 P w K mg base A outer s H → BindsTo s fd args (ps.zip us) → Vals vs us →
    sp p.1 cls d vs H Q E → codeAny (model P w) A (.call (.ref f) args) (CR CX0 outer P w H s Q E) s
structure DnA (P : Program) (w : World) (K : PySem.W.Frag) (mg : Str → Option Value) (base : Heap) (k : Nat) (x : Str) (ps : List Str) (sp : Addr → Value → Option Addr → Sp) : Prop where
  ex : ∃ f fd, mg x = some (.ref f) ∧ PySem.W.keepIn K (.ref f) = true ∧ Binds K fd ps [] ∧ FnHa P w K mg base k f fd ps sp
section
variable {P : Program} {w : World} {K : PySem.W.Frag} {mg : Str → Option Value} {base : Heap}
theorem Tx.okA {x : Str} {st : Stmt} {N ps : List Str} {k : Nat} {sp : Addr → Value → Option Addr → Sp} (T : Tx K mg x st ps) (S : FnScope N ps (defScope st)) (len : ∀ a cls d vs H Q E, sp a cls d vs H Q E → vs.length = ps.length)
    (hbody : ∀ (f : Addr) (cdv : Value) (A : Around) (outer : List Env) (s : Shared) (H : Hp) (vs : List V) (Q : VK) (E : XK) (p : Addr × Obj) (cls : Value) (d : Option Addr), L2H.HotC (L2H.cxH CX0 P w K mg base N x (defScope st) f cdv A outer s H E p) → L2N.Zn cls d p.2 → (∃ vs, p.2.data = .fields vs) →
      p ∈ (L2H.cxH CX0 P w K mg base N x (defScope st) f cdv A outer s H E p).pn → L2H.RoomH k (A.deeper (envOfC x (defScope st) s.heap.objs.size f cdv)) → sp p.1 cls d vs H Q E →
      ∃ t, PSs (L2H.cxH CX0 P w K mg base N x (defScope st) f cdv A outer s H E p) (defBody st) t ∧ t { nx := fun _ H' => Q .non H', rt := Q } (L2.start N vs) H) : DnA P w K mg base (k + 1) x ps sp := by
  obtain ⟨f, fd, F, m, b⟩ := T.ex
  have F' := F
  obtain ⟨oc, od, kV, doc, pm, an, cdv, ct, osl, e, lk, hcd⟩ := F.ex
  subst e
  refine ⟨f, _, m, F'.kp, b, ⟨len, fun A outer s H args us vs Q E p cls d hr hot hz hpin e0 hb r hsp => ?_⟩⟩
  have hl := len _ _ _ _ _ _ _ hsp
  have KX : K.In s.heap := e0.mod.kin.keeps fun b o e => (e0.bs b o e).1
  have lim : s.heap.NoLimit := e0.mod.nolimit.keeps fun b o e => (e0.bs b o e).1
  have hkind : ∀ y ∈ ps.zip us, (defScope st).names.lookup y.1 = some .local ∨ ((defScope st).names.lookup y.1 = some .cell ∧ ((cellsFrom (s.heap.objs.size + 1) (defScope st).names []).lookup y.1).isSome = true) := fun ⟨n, v⟩ hy => by
    rcases S.par n (List.of_mem_zip hy).1 with q | q
    · exact .inl q
    · exact .inr ⟨q, PySem.W.cellsFrom_some _ _ _ (.inl q)⟩
  refine codeAny_call_function hr.depth (KX _ _ lk) rfl S.co S.gen rfl (PySem.W.codeRec_of KX hcd) (hb _ _ _ _ ?_)
  refine wpAny_newFunctionEnv_cells S.kind hkind fun env he s1 y => ?_
  subst he
  refine ⟨lim.keeps y.toInCall.keep, codeAny_func ?_⟩
  obtain ⟨t, ht, hq⟩ := hbody f cdv A outer s H vs Q E p cls d ⟨p, ⟨hot.1, hot.2⟩, List.mem_singleton.mpr rfl⟩ hz (by obtain ⟨_, vs1, e1, _⟩ := hot; exact ⟨vs1, e1⟩) (List.mem_singleton.mpr rfl) (hr.deeper _) hsp
  have I : L2.Inv (L2H.cxH CX0 P w K mg base N x (defScope st) f cdv A outer s H E p) [] (L2.start N vs) H s1 := L2H.inv_startH S hpin e0 hl r y
  refine wpAny_mono (ht.run [] s1 (L2.start N vs) H _ I hq) (fun fl s' hs => ?_) fun e s' hs => hs
  have fin : ∀ {σ' : L2.St} {H' : Hp} {v : V} {u : Value}, L2.Inv (L2H.cxH CX0 P w K mg base N x (defScope st) f cdv A outer s H E p) [] σ' H' s' → RelV v u → Q v H' → CE outer P w H s Q u s' :=
    fun {σ' H' v u} J rv q => ⟨v, H', J.os, J.bare, J.base, J.hok, rv, q⟩
  cases fl with
  | ret u =>
    obtain ⟨v, σ', H', J, rv, q⟩ := hs
    exact fin J rv q
  | next =>
    obtain ⟨σ', H', J, q⟩ := hs
    exact fin (v := V.non) (u := Value.none) J rfl q
  | brk =>
    obtain ⟨_, _, _, q⟩ := hs
    exact False.elim q
  | cont =>
    obtain ⟨_, _, _, q⟩ := hs
    exact False.elim q
end
section
variable {X : Cx} {k : Nat} {ps : List Str} {sp : Addr → Value → Option Addr → Sp} {x : Str} {q pos : Pos} {e : Expr} {es : List Expr} {t : TA} {a : Addr} {oe : Obj} {cls : Value} {d : Option Addr}
theorem pe_dA (hh : L2H.Hot1 X.A (a, oe)) (hp : (a, oe) ∈ X.pn) (hz : L2N.Zn cls d oe) (D : DnA X.prog X.w X.K X.mg X.base k x ps sp) (hr : L2H.RoomH k X.A) (hg : Gl X x) (ha : PA X (e :: es) t) (hdb : (x == ("__debug__" : Str)) = false := by decide)
    (he : starEach (e :: es) X.env = (false, eval e X.env) :: starEach es X.env := by rfl) (hpl : (backTo pos (starEach es X.env)).any (·.1) = false := by rfl) :
    PE X (.Call (.Name x q) (e :: es) [] pos) (tCall (sp a cls d) [] E0 t) := by
  obtain ⟨f, fd, m, kp, b, F⟩ := D.ex
  refine ⟨fun pins s σ H Q I h => ?_⟩
  refine wpAny_Call_Name_kw (ld_glob I hg m ?_ hdb)
  refine PySem.W.callWith_K (h₀ := X.base) I.ok.mod.kin kp (thn (ha.run pos pins s σ H _ I h) fun us s1 ⟨vs, H1, I1, r, h1⟩ => ⟨I1.kIn, ?_⟩) he hpl
  have h1 : sp a cls d (vs ++ []) H1 Q E0 := h1
  rw [List.append_nil] at h1
  have hl : us.length = ps.length := by rw [← PySem.Paired.length r]; exact F.len _ _ _ _ _ _ _ h1
  have b1 := b s1 us I1.kIn (by rw [List.append_nil]; exact hl)
  rw [List.append_nil] at b1
  have P1 := I1.pin (a, oe) (List.mem_append_left _ hp)
  have hpin : L2H.PinOk X.stack H1 s1 (a, oe) := ⟨P1.1, P1.2.1, fun hm => (List.mem_cons.mp (I1.stkSub a hm)).elim P1.2.2.1 P1.2.2.2.1, P1.2.2.2.2⟩
  refine wpAny_call (codeAny_mono (F.run X.A X.stack s1 H1 ⟨us, []⟩ us vs Q E0 (a, oe) cls d hr hh hz hpin I1.env0 b1 r h1) fun r s' hq => ?_)
  cases r with
  | error e => exact False.elim hq
  | ok fl =>
    cases fl with
    | ret u => exact I1.after hq
    | next => exact False.elim hq
    | brk => exact False.elim hq
    | cont => exact False.elim hq
theorem hot1_suite {pn : List (Addr × Obj)} (hz : L2N.Zn cls d oe) (hf : ∃ vs, oe.data = .fields vs) : L2H.Hot1 (X.suite a ((a, oe) :: pn)).A (a, oe) := by
  obtain ⟨vs, e⟩ := hf
  exact ⟨rfl, vs, e, hz.2.2 vs e⟩
theorem kn_instP {D : Addr} {pins : List (Addr × Obj)} {s : Shared} {σ : L2.St} {H : Hp} (hp : (a, oe) ∈ X.pn) (hz : Zc cls d oe) (hf : ∃ vs, oe.data = .fields vs) (I : L2.Inv X pins σ H s) (h : Kn D cls d H) : ∃ od, PySem.W.InstAt s.heap a oe D od := by
  obtain ⟨ha, _⟩ := I.pin (a, oe) (List.mem_append_left _ hp)
  obtain ⟨vs, hd⟩ := hf
  obtain ⟨ec, hh⟩ := h
  subst ec
  rcases hh with e | ⟨dd, fs, e, hx⟩
  · subst e
    exact ⟨none, ha, hz.1, by unfold PySem.W.notCls; rw [hd] <;> rfl, by rw [hz.2]; trivial⟩
  · subst e
    have hx : ObjOk X.prog X.w H s.heap dd (.xd fs) := I.hok dd _ hx
    obtain ⟨mA, hns, hr⟩ := hx
    obtain ⟨od, ho, hl⟩ := lookIn_ns hns
    exact ⟨some od, ha, hz.1, by unfold PySem.W.notCls; rw [hd] <;> rfl, by rw [hz.2]; exact ho⟩
theorem call_isE1P {D : Addr} (C : ExcC X.K D) (hp : (a, oe) ∈ X.pn) (hz : Zc cls d oe) (hf : ∃ vs, oe.data = .fields vs) : CallR X (.builtin "isinstance") (rIsE1 X.K D a cls d) := by
  intro pins s σ H xs us Q I r h
  obtain ⟨c, cv, b, rfl, kn, hcv, e, q⟩ := h
  obtain ⟨u1, u2, rfl, r1, r2⟩ := vals2 r
  cases (show u1 = Value.ref a from r1)
  have ec := hcv _ r2
  subst ec
  obtain ⟨od, J⟩ := kn_instP hp hz hf I kn
  exact PySem.W.kia_one (PySem.W.kitx_excD C.hg C.hk C.hs C.hd C.ha C.hn C.ht C.hm) I.kIn J e (fun z => nomatch z) fun tk => ⟨.bl b, H, I.kept (t' := tk) fun _ _ z => z, rfl, q⟩
end
/-- what a def promises that is handed the error, of class D, without fields -/
def CtV {α : Type} (args : α → List As) (pre : α → Prop) (res : α → As) (D : Addr) : Addr → Value → Option Addr → Sp := fun a cls d vs H Q _ =>
  cls = .ref D ∧ d = none ∧ ∃ x F, Same F H ∧ All F (Rf a :: args x) vs ∧ pre x ∧ ∀ v F' H', Ext [] F H F' H' → Same F' H' → (res x).p F' v → Q v H'
theorem CtV.len {α : Type} {args : α → List As} {pre : α → Prop} {res : α → As} {D : Addr} {n : Nat} (h : ∀ a, (args a).length = n) : ∀ a cls d vs H Q E, CtV args pre res D a cls d vs H Q E → vs.length = n + 1 := by
  rintro a cls d vs H Q E ⟨_, _, x, F, _, ha, _⟩
  rw [ha.length, List.length_cons, h]
theorem ev_callV {Γ : Gm} {Ω : Om} {α : Type} {args : α → List As} {pre : α → Prop} {res : α → As} {D a : Addr} {E : XK} {ta : TA} (x : α) (h : EvA Γ Ω ta (Rf a :: args x)) (hp : pre x) : Ev Γ Ω (tCall (CtV args pre res D a (.ref D) none) [] E ta) (res x) := fun Z F H σ c Q q =>
  h Z F H σ c _ fun vs F1 H1 c1 s1 rs => ⟨rfl, rfl, x, F1, c1.sub, by rw [List.append_nil]; exact rs, hp, fun v F2 H2 e2 s2 r => q v F2 H2 (c1.step e2 s2) (s1.trans e2) r⟩
end Y

namespace Y
open PySem L2 PySem.Spec
open PyProof.Rows (envOfC)
/-! ## several except clauses, with names and without -/
abbrev Cls3 := Value × Option Nat × (Addr → Value → Option Addr → TS)
def outN (i : Nat) (D : Ends) : Ends := { nx := fun σ' H' => D.nx (σ'.set i none) H', rt := D.rt, bk := fun σ' H' => D.bk (σ'.set i none) H', ct := fun σ' H' => D.ct (σ'.set i none) H' }
def wM (K : PySem.W.Frag) (Wout : WX) (D : Ends) : List Cls3 → WX
  | [] => Wout
  | (c, none, ts) :: r => fun cls d σ H => ∃ b, PySem.W.exmOne K cls c = some b ∧ (b = true → ∀ a, H a = none → ts a cls d D σ H) ∧ (b = false → wM K Wout D r cls d σ H)
  | (c, some i, ts) :: r => fun cls d σ H => ∃ b, PySem.W.exmOne K cls c = some b ∧ (b = true → ∀ a, H a = none → ts a cls d (outN i D) (σ.set i (some (.ref a))) H) ∧ (b = false → wM K Wout D r cls d σ H)
inductive HdsM (X : Cx) : List ExceptHandler → List Cls3 → Prop
  | nil : HdsM X [] []
  | cons {x : Str} {c : Value} {ts : Addr → Value → Option Addr → TS} {b₀ : Stmt} {suite : List Stmt} {np pos' : Pos} {hds : List ExceptHandler} {l : List Cls3} (hc : Names X x c)
      (hsu : ∀ (a : Addr) (oe : Obj) (cls : Value) (d : Option Addr) (pn : List (Addr × Obj)), L2N.Zn cls d oe → (∃ vs, oe.data = .fields vs) → PSs (X.suite a ((a, oe) :: pn)) (b₀ :: suite) (ts a cls d)) (r : HdsM X hds l) :
      HdsM X (.ExceptHandler (some (.Name x np)) none (b₀ :: suite) pos' :: hds) ((c, none, ts) :: l)
  | as {x n : Str} {c : Value} {i : Nat} {ts : Addr → Value → Option Addr → TS} {b₀ : Stmt} {suite : List Stmt} {np pos' : Pos} {hds : List ExceptHandler} {l : List Cls3} (hi : X.N[i]? = some n) (hln : X.env.kindOf n = some .local) (hc : Names X x c)
      (hsu : ∀ (a : Addr) (oe : Obj) (cls : Value) (d : Option Addr) (pn : List (Addr × Obj)), L2N.Zn cls d oe → (∃ vs, oe.data = .fields vs) → PSs (X.suite a ((a, oe) :: pn)) (b₀ :: suite) (ts a cls d)) (r : HdsM X hds l) :
      HdsM X (.ExceptHandler (some (.Name x np)) (some n) (b₀ :: suite) pos' :: hds) ((c, some i, ts) :: l)
section
variable {X : Cx} {body : List Stmt} {h₀ : ExceptHandler} {hds : List ExceptHandler} {l : List Cls3} {pos : Pos} {tb : WX → TS} {Wout : WX}
theorem ps_tryM (hs : X.stack = X.env :: X.outer) (hf : X.env.frame = some X.env.locals) (hN : X.N.Nodup) (tk : Takes X Wout)
    (hb : ∀ (W : WX) (pn : List (Addr × Obj)) (xe : Value → Shared → Prop), Takes (X.tr pn xe) W → PassesOwn (model X.prog X.w) X.A X.env xe → PSs (X.tr pn xe) body (tb W))
    (hh : HdsM X (h₀ :: hds) l) : PS X (.Try body (h₀ :: hds) [] [] pos) (fun D σ H => tb (wM X.K Wout D l) D σ H) := by
  refine ⟨fun pins s σ H D I h => ?_⟩
  have ok := I.ok
  have hfr : X.A.frames = some (X.env :: X.outer) := by rw [ok.frames, hs]
  refine wpAny_Try_except ?_
  refine wpAny_mono ((hb (wM X.K Wout D l) (X.pn ++ pins) (fun e s₁ => wpAny (model X.prog X.w) X.A (noteFrame e X.env) (fun _ s₂ => wpAny (model X.prog X.w) X.A (setFlight e none) (fun _ s₃ =>
    wpAny (model X.prog X.w) X.A (handleBy e X.env (h₀ :: hds)) (SP X pins D) X.xe s₃) X.xe s₂) X.xe s₁) (fun u s' xx => ?_) PassesOwn.looking).run [] s σ H D (I.toTry _) h) (fun f s1 hsp => ?_) (fun e s1 he => he)
  · obtain ⟨a, Bh, sI, pins', σ', H', cls, d, rfl, J', nb, up, sky, na, os, ag, w⟩ := xx
    have J : L2.Inv X pins σ' H' sI := J'.ofTry ok
    have sky' : Sky Bh (X.env :: X.outer) a (L2N.Zn cls d) X.env.locals s'.heap := by rw [← hs]; exact sky
    show wpAny (model X.prog X.w) X.A (noteFrame (.ref a) X.env) _ _ _
    refine L2N.Sky.land L2N.Zn.steady hfr hf sky' fun h3 fl3 up3 => ?_
    have J3 : L2.Inv X pins σ' H' { s' with heap := h3 } := J.landed nb fl3.1 (up.trans up3) os ag
    obtain ⟨oe3, vs3, he3, hz3, hd3⟩ := fl3.there
    have notFr : ∀ {h : Heap} {o : Obj} {vs : Array Value}, h.FunFrames Bh (X.env :: X.outer) → h.get? a = some o → o.data = .fields vs → a ∉ frs (X.env :: X.outer) := fun {h o vs} ff e dd hm => by
      obtain ⟨_, o', e', hnf⟩ := ff.mem hm
      rw [e] at e'; cases e'
      exact hnf _ dd
    have nfr := notFr fl3.2.2.1 he3 hd3
    have nL : a ≠ X.env.locals := fun z => nfr (List.mem_filterMap.mpr ⟨X.env, List.mem_cons_self, by rw [hf, z]⟩)
    have nF : a ∉ X.fs := fun hm => by
      obtain ⟨e, he, q⟩ := List.mem_filterMap.mp hm
      exact nfr (List.mem_filterMap.mpr ⟨e, List.mem_cons_of_mem _ he, q⟩)
    have S3 := J3.suite he3 hd3 na nL nF
    have test : ∀ {x : Str} {c : Value} {Q : Value → Shared → Prop} {E : Value → Shared → Prop} {np : Pos}, Names X x c → Q c { s' with heap := h3 } → wpAny (model X.prog X.w) (X.A.mark (some (.ref a))) (eval (.Name x np) X.env) Q E { s' with heap := h3 } := fun {x c Q E np} hc q => by
      obtain ⟨hg, hdbg, hm | ⟨hm, hv, hnn⟩⟩ := hc
      · exact ld_glob (X := X.suite a ((a, oe3) :: (X.pn ++ pins))) S3 hg hm q hdbg
      · exact ld_blt (X := X.suite a ((a, oe3) :: (X.pn ++ pins))) S3 hg hm hv q hnn hdbg
    have go : ∀ {hds' : List ExceptHandler} {l' : List Cls3}, HdsM X hds' l' → wM X.K Wout D l' cls d σ' H' →
        wpAny (model X.prog X.w) X.A (handleBy (.ref a) X.env hds') (SP X pins D) X.xe { s' with heap := h3 } := by
      intro hds' l' hk
      induction hk with
      | nil =>
        intro w
        refine wpAny_handleBy_nil ?_
        obtain ⟨k1, k2, k3, oe, vs, T, oT, ts', he, hz, hd, h1, hr⟩ := id fl3
        unfold PySem.passOn
        refine wpAny_bind (wpAny_field he hd h1 ?_)
        rw [if_neg (show ¬ ((Value.ref T == Value.none) = true) from by simp)]
        have fin : wpAny (model X.prog X.w) X.A (setFlight (.ref a) X.env.frame) (fun _ s4 => wpAny (model X.prog X.w) X.A (throw (.ref a) : Sem Flow) (SP X pins D) X.xe s4) X.xe { s' with heap := h3 } := by
          rw [hf]
          refine HandSPX.setFlight_upZ fl3 fun h4 hh4 up4 => wpAny_throw (tk _ _ ?_)
          exact ⟨a, Bh, sI, pins, σ', H', cls, d, rfl, J, nb, (up.trans up3).trans up4, .inr (.inr (by rw [hs]; exact hh4)), na, os, ag, w⟩
        first
          | exact wpAny_bind (wpAny_pure (wpAny_bind fin))
          | exact wpAny_bind fin
      | @cons x c ts b₀ suite np pos' hds2 l2 hc hsu r ih =>
        intro w
        obtain ⟨b, hb1, hyes, hno⟩ := w
        refine wpAny_handleBy_cons (codeAny_handlers_test ?_) (by intro q; cases q)
        have LT : PySem.W.Looks (model X.prog X.w) h3 (typeOf (.ref a)) cls := fun A Q E s k q => wpAny_typeOf_ref (k _ _ he3) (by rw [hz3.1]; exact q)
        have LM := PySem.W.exm_one (M := model X.prog X.w) (J3.kIn) LT hb1
        refine test hc (LM.here ?_)
        cases b with
        | true =>
          refine codeAny_handlers_suite ?_
          refine HandSPX.lands_againZ fl3 fun h4 fl4 up4 => ?_
          have J4 : L2.Inv X pins σ' H' { s' with heap := h4 } := J.landed nb fl4.1 ((up.trans up3).trans up4) os ag
          obtain ⟨oe4, vs4, he4, hz4, hd4⟩ := fl4.there
          have S4 := J4.suite he4 hd4 na nL nF
          refine wpAny_mono ((hsu a oe4 cls d (X.pn ++ pins) hz4 ⟨_, hd4⟩).run [] _ _ H' _ S4 (hyes rfl a na)) (fun f s6 hsp => ?_) (fun _ _ z => False.elim z)
          cases f with
          | next =>
            obtain ⟨σ6, H6, S6, q6⟩ := hsp
            exact ⟨_, _, S6.unsuite ok, q6⟩
          | brk =>
            obtain ⟨σ6, H6, S6, q6⟩ := hsp
            exact ⟨_, _, S6.unsuite ok, q6⟩
          | cont =>
            obtain ⟨σ6, H6, S6, q6⟩ := hsp
            exact ⟨_, _, S6.unsuite ok, q6⟩
          | ret u =>
            obtain ⟨v6, σ6, H6, S6, r6, q6⟩ := hsp
            exact ⟨_, _, _, S6.unsuite ok, r6, q6⟩
        | false =>
          show wpAny _ X.A (handleBy (.ref a) X.env hds2) _ _ _
          exact ih (hno rfl)
      | @as x n c i ts b₀ suite np pos' hds2 l2 hi hln hc hsu r ih =>
        intro w
        obtain ⟨b, hb1, hyes, hno⟩ := w
        have hloc : Loc X.env.scope n := .inl hln
        refine wpAny_handleBy_cons (codeAny_handlers_test ?_) (by intro q; cases q)
        have LT : PySem.W.Looks (model X.prog X.w) h3 (typeOf (.ref a)) cls := fun A Q E s k q => wpAny_typeOf_ref (k _ _ he3) (by rw [hz3.1]; exact q)
        have LM := PySem.W.exm_one (M := model X.prog X.w) (J3.kIn) LT hb1
        refine test hc (LM.here ?_)
        cases b with
        | true =>
          refine codeAny_handlers_suite_as ?_
          refine HandSPX.lands_againZ fl3 fun h4 fl4 up4 => ?_
          have J4 : L2.Inv X pins σ' H' { s' with heap := h4 } := J.landed nb fl4.1 ((up.trans up3).trans up4) os ag
          obtain ⟨oe4, vs4, he4, hz4, hd4⟩ := fl4.there
          have S4 := J4.suite he4 hd4 na nL nF
          refine store_ok (X := X.suite a ((a, oe4) :: (X.pn ++ pins))) (v := .ref a) S4 hN hi hloc rfl (fun s5 S5 => ?_) (.inr hln)
          refine wpAny_mono ((hsu a oe4 cls d (X.pn ++ pins) hz4 ⟨_, hd4⟩).run [] s5 _ H' _ S5 (hyes rfl a na)) (fun f s6 hsp => ?_) (fun _ _ z => False.elim z)
          have end_ : ∀ {σ6 : L2.St} {H6 : Hp} {Q : Shared → Prop}, L2.Inv (X.suite a ((a, oe4) :: (X.pn ++ pins))) [] σ6 H6 s6 → (∀ s7, L2.Inv X pins (σ6.set i none) H6 s7 → Q s7) →
              wpAny (model X.prog X.w) X.A (do bindName X.env n .none; unbindBehindTheSuite X.env n pos') (fun _ s7 => Q s7) X.xe s6 := fun {σ6 H6 Q} S6 hq => gone_ok (S6.unsuite ok) hN hi hln hq
          cases f with
          | next =>
            obtain ⟨σ6, H6, S6, q6⟩ := hsp
            exact end_ S6 fun s7 J7 => ⟨_, _, J7, q6⟩
          | brk =>
            obtain ⟨σ6, H6, S6, q6⟩ := hsp
            exact end_ S6 fun s7 J7 => ⟨_, _, J7, q6⟩
          | cont =>
            obtain ⟨σ6, H6, S6, q6⟩ := hsp
            exact end_ S6 fun s7 J7 => ⟨_, _, J7, q6⟩
          | ret u =>
            obtain ⟨v6, σ6, H6, S6, r6, q6⟩ := hsp
            exact end_ S6 fun s7 J7 => ⟨_, _, _, J7, r6, q6⟩
        | false =>
          show wpAny _ X.A (handleBy (.ref a) X.env hds2) _ _ _
          exact ih (hno rfl)
    exact go hh w
  · cases f with
    | next =>
      obtain ⟨σ', H', J', q⟩ := hsp
      exact wpAny_execs_nil ⟨σ', H', J'.ofTry ok, q⟩
    | brk =>
      obtain ⟨σ', H', J', q⟩ := hsp
      exact ⟨σ', H', J'.ofTry ok, q⟩
    | cont =>
      obtain ⟨σ', H', J', q⟩ := hsp
      exact ⟨σ', H', J'.ofTry ok, q⟩
    | ret u =>
      obtain ⟨v, σ', H', J', r, q⟩ := hsp
      exact ⟨v, σ', H', J'.ofTry ok, r, q⟩
end
/-! ## a promise of two parts: what is answered, or what is raised -/
def spOr (s1 s2 : Sp) : Sp := fun vs H Q E => s1 vs H Q E ∨ s2 vs H Q E
theorem or_l {s1 s2 : Sp} : ∀ vs H Q E, s1 vs H Q E → spOr s1 s2 vs H Q E := fun _ _ _ _ => .inl
theorem or_r {s1 s2 : Sp} : ∀ vs H Q E, s2 vs H Q E → spOr s1 s2 vs H Q E := fun _ _ _ _ => .inr
/-- raises, and changes nothing -/
def CtN {α : Type} (args : α → List As) (Oi : α → Om) (pre : α → Prop) (D : α → Addr) : Sp := fun vs H _ E =>
  ∃ a F, Same F H ∧ All F (args a) vs ∧ Own F H (Oi a) ∧ ((Oi a).map (·.1)).Nodup ∧ pre a ∧ ∀ F' H', Ext [] F H F' H' → Same F' H' → E (.ref (D a)) none H'
theorem CtN.len {α : Type} {args : α → List As} {Oi : α → Om} {pre : α → Prop} {D : α → Addr} {n : Nat} (h : ∀ a, (args a).length = n) : ∀ vs H Q E, CtN args Oi pre D vs H Q E → vs.length = n := by
  rintro vs H Q E ⟨a, F, _, ha, _⟩
  rw [ha.length, h]
theorem spOr_len {s1 s2 : Sp} {n : Nat} (h1 : ∀ vs H Q E, s1 vs H Q E → vs.length = n) (h2 : ∀ vs H Q E, s2 vs H Q E → vs.length = n) : ∀ vs H Q E, spOr s1 s2 vs H Q E → vs.length = n := fun vs H Q E h => h.elim (h1 vs H Q E) (h2 vs H Q E)
section
variable {X : Cx} {C : Addr} {m x cn : Str} {ps : List Str} {sp : Sp} {k : Nat} {p p1 pos apos : Pos} {e o : Expr} {es : List Expr} {t : TA} {ta : TE} {W : WX}
/-- a method where nothing is raised, in the words of one that may raise -/
theorem pe_dmE {pl : Sem Bool} (he : PE X o ta) (c : Cls X.K C) (D : Dm X.prog X.w X.K X.mg X.base k C m ps sp) (hr : Room k X.A) (ha : PA X (e :: es) t)
    (hst : starEach (e :: es) X.env = (false, eval e X.env) :: starEach es X.env := by rfl) (hpl : (backTo pos (starEach es X.env)).any (·.1) = false := by rfl)
    (ht : eval (.Call (.Attribute o m apos) (e :: es) [] pos) X.env = (do
      let ov ← eval o X.env
      standAt apos.atName
      let (f, first) ← holding [ov] (getMethod ov m pl)
      callWith pos f first (backTo pos (starEach (e :: es) X.env)) (backToKw pos (keywordEach [] X.env))) := by rfl) :
    PE X (.Call (.Attribute o m apos) (e :: es) [] pos) (tMethX C m sp (fun _ => E0) ta t) := by
  have z := pe_dm (pl := pl) he c D hr ha hst hpl ht
  have e1 : tMethX C m sp (fun _ => E0) ta t = tMeth C m sp [] E0 ta t := by
    funext σ H Q
    unfold tMethX tMeth
    simp only [List.append_nil]
  rw [e1]; exact z
/-- Cls.m(self, ..) in a def that lets the error out, or a try -/
theorem pe_dfS {pl : Sem Bool} (tk : Takes X W) (D : Df X.prog X.w X.K X.mg X.base k cn m ps sp) (hr : Room k X.A) (hg : Gl X cn) (ha : PA X (e :: es) t) (hdb : (cn == ("__debug__" : Str)) = false := by decide)
    (hst : starEach (e :: es) X.env = (false, eval e X.env) :: starEach es X.env := by rfl) (hpl : (backTo pos (starEach es X.env)).any (·.1) = false := by rfl)
    (ht : eval (.Call (.Attribute (.Name cn p1) m apos) (e :: es) [] pos) X.env = (do
      let ov ← eval (.Name cn p1) X.env
      standAt apos.atName
      let (f, first) ← holding [ov] (getMethod ov m pl)
      callWith pos f first (backTo pos (starEach (e :: es) X.env)) (backToKw pos (keywordEach [] X.env))) := by rfl) :
    PE X (.Call (.Attribute (.Name cn p1) m apos) (e :: es) [] pos) (tCallS sp (WE W) t) := by
  obtain ⟨Da, f, fd, h1, h2, h3, h4, kp, b, G⟩ := D.ex
  refine ⟨fun pins s σ H Q I h => ?_⟩
  refine PySem.W.methodCall_KW (pl := pl) (ld_glob I hg h1 ?_ hdb) ht
  refine PySem.W.method_cls I.kIn h2 (PySem.W.cls_value I.kIn h3 h4 rfl ?_)
  have I2 := I.tok (s.toks + 1)
  refine PySem.W.callWith_K (first := []) (h₀ := X.base) I.ok.mod.kin kp (thn (ha.run pos pins _ σ H _ I2 h) fun us s1 ⟨vs, H1, I1, r, q⟩ => ⟨I1.kIn, ?_⟩) hst hpl
  exact run_fnS G hr b (L2N.passAt tk σ) I1 r q
/-- the same where nothing is raised -/
theorem pe_dfE {pl : Sem Bool} (D : Df X.prog X.w X.K X.mg X.base k cn m ps sp) (hr : Room k X.A) (hg : Gl X cn) (ha : PA X (e :: es) t) (hdb : (cn == ("__debug__" : Str)) = false := by decide)
    (hst : starEach (e :: es) X.env = (false, eval e X.env) :: starEach es X.env := by rfl) (hpl : (backTo pos (starEach es X.env)).any (·.1) = false := by rfl)
    (ht : eval (.Call (.Attribute (.Name cn p1) m apos) (e :: es) [] pos) X.env = (do
      let ov ← eval (.Name cn p1) X.env
      standAt apos.atName
      let (f, first) ← holding [ov] (getMethod ov m pl)
      callWith pos f first (backTo pos (starEach (e :: es) X.env)) (backToKw pos (keywordEach [] X.env))) := by rfl) :
    PE X (.Call (.Attribute (.Name cn p1) m apos) (e :: es) [] pos) (tCallS sp (fun _ => E0) t) := by
  have z := pe_df (pl := pl) D hr hg ha hdb hst hpl ht
  have e1 : tCallS sp (fun _ => E0) t = tCall sp [] E0 t := by
    funext σ H Q
    show (t σ H fun vs H1 => sp vs H1 Q E0) = (t σ H fun vs H1 => sp (vs ++ []) H1 Q E0)
    simp only [List.append_nil]
  rw [e1]; exact z
end
section
variable {Z : Bs} {F H : Hp} {σ : L2.St} {Γ : Gm} {Ω Ω' Ωr : Om} {K : PySem.W.Frag} {ta tb te : TE} {t tas : TA} {sp : Sp} {Rs : List As} {R : As} {p C dx D : Addr} {m : Str} {fs : List (Str × As)} {j : Nat} {E : L2.St → XK} {n : L2.St → Hp → Prop} {r : VK} {bk ct : L2.St → Hp → Prop}
theorem ev_methX {α : Type} {args : α → List As} {Oi : α → Om} {pre : α → Prop} {res : α → As} (hsub : ∀ vs H Q E, CtR args Oi pre res vs H Q E → sp vs H Q E) (a : α) (ho : Ev Γ Ω ta (Rf p)) (hm : Ω[j]? = some (p, oI C dx fs)) (hn : fs.lookup m = none) (h : EvA Γ Ω t Rs) (ha : args a = Rf p :: Rs) (hs : (Oi a).Sublist Ω) (hp : pre a) :
    Ev Γ Ω (tMethX C m sp E ta t) (res a) := fun Z F H σ c Q q =>
  ho Z F H σ c _ fun x F1 H1 c1 s1 rx => by
    cases rx
    obtain ⟨_, o, h2, vs, eo, hf⟩ := c1.own _ (List.mem_of_getElem? hm)
    subst eo
    refine ⟨p, dx, vs, rfl, h2, hf.none hn, h Z F1 H1 σ c1 _ fun ws F2 H2 c2 s2 rs => hsub _ _ _ _ ?_⟩
    exact ⟨a, F2, c2.sub, by rw [ha]; exact ⟨rfl, rs⟩, c2.own.sub fun x hx => hs.subset hx, nodup_sub c2.nd hs, hp, fun v F3 H3 e3 s3 rv => q v F3 H3 (c2.step e3 s3) (s1.trans (s2.trans e3)) rv⟩
theorem em_methX {α : Type} {args : α → List As} {Oi Oo : α → Om} {pre : α → Prop} {res : α → As} (hsub : ∀ vs H Q E, CtM args Oi pre res Oo vs H Q E → sp vs H Q E) (a : α) (ho : Ev Γ Ω ta (Rf p)) (hm : Ω[j]? = some (p, oI C dx fs)) (hn : fs.lookup m = none) (h : EvA Γ Ω t Rs) (ha : args a = Rf p :: Rs) (hs : Ω.Perm (Oi a ++ Ωr)) (hp : pre a)
    (hoo : (Oo a).map (·.1) = (Oi a).map (·.1)) (hw : ∀ x ∈ (Oi a).map (·.1), Wr Z x) : EvM Z Γ Ω (tMethX C m sp E ta t) (res a) (Oo a ++ Ωr) := fun F H σ c Q k =>
  ho Z F H σ c _ fun x F1 H1 c1 s1 rx => by
    cases rx
    obtain ⟨_, o, h2, vs, eo, hf⟩ := c1.own _ (List.mem_of_getElem? hm)
    subst eo
    refine ⟨p, dx, vs, rfl, h2, hf.none hn, h Z F1 H1 σ c1 _ fun ws F2 H2 c2 s2 rs => hsub _ _ _ _ ?_⟩
    have cp := c2.perm hs
    have nd := cp.nd
    rw [List.map_append, List.nodup_append] at nd
    exact ⟨a, F2, c2.sub, by rw [ha]; exact ⟨rfl, rs⟩, cp.own.sub fun x hx => List.mem_append_left _ hx, nd.1, hp, fun v F3 H3 e3 s3 rv ow => k v F3 H3 (cp.changedG e3 s3 ow (by rw [hoo]; exact nd.1) (fun x hx => .inl (by rw [← hoo]; exact hx)) hw) ((s1.trans s2).fe.trans e3.fe) rv⟩
theorem ev_callRX {α : Type} {args : α → List As} {Oi : α → Om} {pre : α → Prop} {res : α → As} (hsub : ∀ vs H Q E, CtR args Oi pre res vs H Q E → sp vs H Q E) (a : α) (h : EvA Γ Ω t (args a)) (hs : (Oi a).Sublist Ω) (hp : pre a) : Ev Γ Ω (tCallS sp E t) (res a) := fun Z F H σ c Q q =>
  h Z F H σ c _ fun vs F1 H1 c1 s1 rs => hsub _ _ _ _ ⟨a, F1, c1.sub, rs, c1.own.sub fun x hx => hs.subset hx, nodup_sub c1.nd hs, hp, fun v F2 H2 e2 s2 r => q v F2 H2 (c1.step e2 s2) (s1.trans e2) r⟩
/-- f(..), one that may raise but does not here, in a def that would let it out -/
theorem ev_callES {α : Type} {args : α → List As} {pre good : α → Prop} {res : α → As} (a : α) (h : EvA Γ Ω t (args a)) (hp : pre a) (hg : good a) : Ev Γ Ω (tCallS (CtE args pre res good C) E t) (res a) := fun Z F H σ c Q q =>
  h Z F H σ c _ fun vs F1 H1 c1 s1 rs => ⟨a, F1, c1.sub, rs, hp, fun _ v F2 H2 e2 s2 r => q v F2 H2 (c1.step e2 s2) (s1.trans e2) r, fun n => absurd hg n⟩
theorem ev_callS {α : Type} {args : α → List As} {pre : α → Prop} {res : α → As} (a : α) (h : EvA Γ Ω t (args a)) (hp : pre a) : Ev Γ Ω (tCallS (CtF args pre res) E t) (res a) := fun Z F H σ c Q q =>
  h Z F H σ c _ fun vs F1 H1 c1 s1 rs => ⟨a, F1, c1.sub, rs, hp, fun v F2 H2 e2 s2 r => q v F2 H2 (c1.step e2 s2) (s1.trans e2) r⟩
/-- an expression that raises an error of class D, without fields -/
def Rz (E : L2.St → XK) (D : Addr) (Γ : Gm) (Ω : Om) (te : TE) : Prop := ∀ (Z : Bs) (F H : Hp) (σ : L2.St), Ctx Z F H σ Γ Ω → (∀ F' H', Ctx Z F' H' σ Γ Ω → Ext [] F H F' H' → E σ (.ref D) none H') → ∀ Q : VK, te σ H Q
def RzA (E : L2.St → XK) (D : Addr) (Γ : Gm) (Ω : Om) (t : TA) : Prop := ∀ (Z : Bs) (F H : Hp) (σ : L2.St), Ctx Z F H σ Γ Ω → (∀ F' H', Ctx Z F' H' σ Γ Ω → Ext [] F H F' H' → E σ (.ref D) none H') → ∀ Q : List V → Hp → Prop, t σ H Q
theorem rz_meth {α : Type} {args : α → List As} {Oi : α → Om} {pre : α → Prop} {Da : α → Addr} (hsub : ∀ vs H Q E, CtN args Oi pre Da vs H Q E → sp vs H Q E) (a : α) (ho : Ev Γ Ω ta (Rf p)) (hm : Ω[j]? = some (p, oI C dx fs)) (hn : fs.lookup m = none) (h : EvA Γ Ω t Rs) (ha : args a = Rf p :: Rs) (hs : (Oi a).Sublist Ω) (hp : pre a) :
    Rz E (Da a) Γ Ω (tMethX C m sp E ta t) := fun Z F H σ c k Q =>
  ho Z F H σ c _ fun x F1 H1 c1 s1 rx => by
    cases rx
    obtain ⟨_, o, h2, vs, eo, hf⟩ := c1.own _ (List.mem_of_getElem? hm)
    subst eo
    refine ⟨p, dx, vs, rfl, h2, hf.none hn, h Z F1 H1 σ c1 _ fun ws F2 H2 c2 s2 rs => hsub _ _ _ _ ?_⟩
    exact ⟨a, F2, c2.sub, by rw [ha]; exact ⟨rfl, rs⟩, c2.own.sub fun x hx => hs.subset hx, nodup_sub c2.nd hs, hp, fun F3 H3 e3 s3 => k F3 H3 (c2.step e3 s3) (s1.trans (s2.trans e3))⟩
theorem rz_callN {α : Type} {args : α → List As} {Oi : α → Om} {pre : α → Prop} {Da : α → Addr} (hsub : ∀ vs H Q E, CtN args Oi pre Da vs H Q E → sp vs H Q E) (a : α) (h : EvA Γ Ω t (args a)) (hs : (Oi a).Sublist Ω) (hp : pre a) : Rz E (Da a) Γ Ω (tCallS sp E t) := fun Z F H σ c k Q =>
  h Z F H σ c _ fun vs F1 H1 c1 s1 rs => hsub _ _ _ _ ⟨a, F1, c1.sub, rs, c1.own.sub fun x hx => hs.subset hx, nodup_sub c1.nd hs, hp, fun F3 H3 e3 s3 => k F3 H3 (c1.step e3 s3) (s1.trans e3)⟩
theorem rz_callE {α : Type} {args : α → List As} {pre good : α → Prop} {res : α → As} (a : α) (h : EvA Γ Ω t (args a)) (hp : pre a) (hg : ¬ good a) : Rz E C Γ Ω (tCallS (CtE args pre res good C) E t) := fun Z F H σ c k Q =>
  h Z F H σ c _ fun vs F1 H1 c1 s1 rs => ⟨a, F1, c1.sub, rs, hp, fun g => absurd g hg, fun _ F3 H3 e3 s3 => k F3 H3 (c1.step e3 s3) (s1.trans e3)⟩
theorem rza_head (h : Rz E D Γ Ω te) : RzA E D Γ Ω (tCons te t) := fun Z F H σ c k Q => h Z F H σ c k _
theorem rza_tail (h1 : Ev Γ Ω te R) (h : RzA E D Γ Ω t) : RzA E D Γ Ω (tCons te t) := fun Z F H σ c k Q =>
  h1 Z F H σ c _ fun v F1 H1 c1 s1 rv => h Z F1 H1 σ c1 (fun F2 H2 c2 s2 => k F2 H2 c2 (s1.trans s2)) _
theorem rz_callA {E' : XK} {dvs : List V} (h : RzA E D Γ Ω t) : Rz E D Γ Ω (tCall sp dvs E' t) := fun Z F H σ c k Q => h Z F H σ c k _
theorem rz_callSA {E' : L2.St → XK} (h : RzA E D Γ Ω t) : Rz E D Γ Ω (tCallS sp E' t) := fun Z F H σ c k Q => h Z F H σ c k _
theorem rz_cb {rr : List V → Hp → VK → Prop} (h : RzA E D Γ Ω t) : Rz E D Γ Ω (tCB rr t) := fun Z F H σ c k Q => h Z F H σ c k _
theorem rz_opL {rr : R2} (h : Rz E D Γ Ω ta) : Rz E D Γ Ω (tOp rr ta tb) := fun Z F H σ c k Q => h Z F H σ c k _
theorem rz_opR {rr : R2} (h1 : Ev Γ Ω ta R) (h : Rz E D Γ Ω tb) : Rz E D Γ Ω (tOp rr ta tb) := fun Z F H σ c k Q =>
  h1 Z F H σ c _ fun v F1 H1 c1 s1 rv => h Z F1 H1 σ c1 (fun F2 H2 c2 s2 => k F2 H2 c2 (s1.trans s2)) _
theorem rz_ret (c : Ctx Z F H σ Γ Ω) (h : Rz E D Γ Ω te) (k : ∀ F' H', Ctx Z F' H' σ Γ Ω → Ext [] F H F' H' → E σ (.ref D) none H') : tRet te ⟨n, r, bk, ct⟩ σ H := h Z F H σ c k _
theorem rz_drop (c : Ctx Z F H σ Γ Ω) (h : Rz E D Γ Ω te) (k : ∀ F' H', Ctx Z F' H' σ Γ Ω → Ext [] F H F' H' → E σ (.ref D) none H') : tDrop te ⟨n, r, bk, ct⟩ σ H := h Z F H σ c k _
theorem rz_asg {g : TG} (c : Ctx Z F H σ Γ Ω) (h : Rz E D Γ Ω te) (k : ∀ F' H', Ctx Z F' H' σ Γ Ω → Ext [] F H F' H' → E σ (.ref D) none H') : tAsg te g ⟨n, r, bk, ct⟩ σ H := h Z F H σ c k _
end
section
variable {Z : Bs} {F H : Hp} {σ : L2.St} {Γ : Gm} {Ω : Om} {K : PySem.W.Frag} {ta tb te : TE} {t : TA} {sp : Sp} {Rs Ss : List As} {R : As} {p D : Addr} {j i : Nat} {E : L2.St → XK} {E' : XK} {cls c : Value} {d : Option Addr} {ts : Addr → Value → Option Addr → TS} {Wout : WX} {D0 : Ends} {l : List Cls3}
theorem wm_hit (h : PySem.W.exmOne K cls c = some true) (k : ∀ a, H a = none → ts a cls d (outN i D0) (σ.set i (some (.ref a))) H) : wM K Wout D0 ((c, some i, ts) :: l) cls d σ H := ⟨true, h, fun _ => k, fun z => Bool.noConfusion z⟩
theorem wm_hit0 (h : PySem.W.exmOne K cls c = some true) (k : ∀ a, H a = none → ts a cls d D0 σ H) : wM K Wout D0 ((c, none, ts) :: l) cls d σ H := ⟨true, h, fun _ => k, fun z => Bool.noConfusion z⟩
theorem wm_skip (h : PySem.W.exmOne K cls c = some false) (k : wM K Wout D0 l cls d σ H) : wM K Wout D0 ((c, some i, ts) :: l) cls d σ H := ⟨false, h, fun z => Bool.noConfusion z, fun _ => k⟩
theorem wm_skip0 (h : PySem.W.exmOne K cls c = some false) (k : wM K Wout D0 l cls d σ H) : wM K Wout D0 ((c, none, ts) :: l) cls d σ H := ⟨false, h, fun z => Bool.noConfusion z, fun _ => k⟩
theorem ev_callF {α : Type} {args : α → List As} {pre : α → Prop} {res : α → As} (hsub : ∀ vs H Q E, CtF args pre res vs H Q E → sp vs H Q E) (a : α) (h : EvA Γ Ω t (args a)) (hp : pre a) : Ev Γ Ω (tCall sp [] E' t) (res a) := fun Z F H σ c Q q =>
  h Z F H σ c _ fun vs F1 H1 c1 s1 rs => hsub _ _ _ _ ⟨a, F1, c1.sub, by rw [List.append_nil]; exact rs, hp, fun v F2 H2 e2 s2 r => q v F2 H2 (c1.step e2 s2) (s1.trans e2) r⟩
theorem ev_callFS {α : Type} {args : α → List As} {pre : α → Prop} {res : α → As} (hsub : ∀ vs H Q E, CtF args pre res vs H Q E → sp vs H Q E) (a : α) (h : EvA Γ Ω t (args a)) (hp : pre a) : Ev Γ Ω (tCallS sp E t) (res a) := fun Z F H σ c Q q =>
  h Z F H σ c _ fun vs F1 H1 c1 s1 rs => hsub _ _ _ _ ⟨a, F1, c1.sub, rs, hp, fun v F2 H2 e2 s2 r => q v F2 H2 (c1.step e2 s2) (s1.trans e2) r⟩
theorem rz_tup (h : RzA E D Γ Ω t) : Rz E D Γ Ω (tTup t) := fun Z F H σ c k Q => h Z F H σ c k _
/-- [e, ..], owned -/
theorem eo_lst (h : EvA Γ Ω t Rs) (hl : Rs.length ≤ 1000 := by decide) : EvNw Γ Ω (tLst t) (oL Rs) := fun Z F H σ c Q q =>
  h Z F H σ c _ fun vs F1 H1 c1 s1 rs => ⟨by rw [rs.length]; exact Nat.le_of_lt (small1000 hl), fun p hp => q p F1 _ (c1.grow (A := oL Rs) hp ⟨vs, rfl, rs⟩) (s1.trans (Ext.newH hp)) (s1.dm _ hp)⟩
/-- l + m, l owned -/
theorem ev_catO (ha : Ev Γ Ω ta (Rf p)) (hm : Ω[j]? = some (p, oL Rs)) (hb : Lw Γ Ω tb Ss) (hn : Rs.length + Ss.length ≤ 1000000) : Ev Γ Ω (tOp rCat ta tb) (Ls K (Rs ++ Ss)) := fun Z F H σ c Q q =>
  ha Z F H σ c _ fun v F1 H1 c1 s1 rv => hb Z F1 H1 σ c1 _ fun b F2 H2 c2 s2 ⟨ys, e2, l2⟩ => by
    cases rv
    obtain ⟨_, o, h2, xs, eo, l1⟩ := c2.own _ (List.mem_of_getElem? hm)
    subst eo
    refine ⟨p, b, xs, ys, rfl, rfl, h2, c2.sub _ _ e2, by rw [l1.length, l2.length] at *; exact Nat.le_trans hn (by decide), fun x hx => ?_⟩
    obtain ⟨F3, H3, e, c3, s3, r⟩ := new_ls (K := K) c2 (l1.app l2) hx
    rw [← e]
    exact q _ F3 H3 c3 (s1.trans (s2.trans s3)) r
end
section
variable {Z : Bs} {F H : Hp} {σ : L2.St} {Γ : Gm} {Ω : Om} {ta tb te : TE} {D : Addr} {E : L2.St → XK} {n : L2.St → Hp → Prop} {r : VK} {bk ct : L2.St → Hp → Prop}
theorem rz_sput (c : Ctx Z F H σ Γ Ω) (h : Rz E D Γ Ω te) (k : ∀ F' H', Ctx Z F' H' σ Γ Ω → Ext [] F H F' H' → E σ (.ref D) none H') : sDPut ta tb te ⟨n, r, bk, ct⟩ σ H := h Z F H σ c k _
end
theorem Tf.okX {P : Program} {w : World} {K : PySem.W.Frag} {mg : Str → Option Value} {base : Heap} {cn m qual : Str} {st : Stmt} {N ps : List Str} {k : Nat} {sp : Sp} (T : Tf K mg cn m qual st ps) (S : FnScope N ps (defScope st)) (len : ∀ vs H Q E, sp vs H Q E → vs.length = ps.length)
    (hbody : ∀ (f : Addr) (cdv : Value) (A : Around) (outer : List Env) (s : Shared) (H : Hp) (vs : List V) (Q : VK) (E : XK), Room k (A.deeper (envOfC qual (defScope st) s.heap.objs.size f cdv)) → sp vs H Q E →
      ∃ t, PSs (cxOf (L2N.CX P w) P w K mg base N qual (defScope st) f cdv A outer s H E) (defBody st) t ∧ t { nx := fun _ H' => Q .non H', rt := Q } (L2.start N vs) H) : Df P w K mg base (k + 1) cn m ps sp := by
  obtain ⟨D, f, fd, h1, h2, h3, h4, F, b⟩ := T.ex
  exact ⟨D, f, fd, h1, h2, h3, h4, F.kp, b, fun_okN F S len (hbody f)⟩
/-! ## a method of a thing that is of one of two classes -/
def tMeth2 (C1 C2 : Addr) (m : Str) (sp1 sp2 : Sp) (E : L2.St → XK) (ta : TE) (t : TA) : TE := fun σ H Q => ta σ H fun x H1 =>
  (∃ a dx fs, x = .ref a ∧ H1 a = some (.ins C1 dx fs) ∧ fs.lookup m = none ∧ t σ H1 fun vs H2 => sp1 (x :: vs) H2 Q (E σ)) ∨
  (∃ a dx fs, x = .ref a ∧ H1 a = some (.ins C2 dx fs) ∧ fs.lookup m = none ∧ t σ H1 fun vs H2 => sp2 (x :: vs) H2 Q (E σ))
section
variable {X : Cx} {C1 C2 : Addr} {m : Str} {ps : List Str} {sp1 sp2 : Sp} {k1 k2 : Nat} {pos apos : Pos} {e o : Expr} {es : List Expr} {t : TA} {ta : TE} {W : WX}
theorem pe_dm2S {pl : Sem Bool} (tk : Takes X W) (he : PE X o ta) (c1 : Cls X.K C1) (D1 : Dm X.prog X.w X.K X.mg X.base k1 C1 m ps sp1) (c2 : Cls X.K C2) (D2 : Dm X.prog X.w X.K X.mg X.base k2 C2 m ps sp2) (hr1 : Room k1 X.A) (hr2 : Room k2 X.A) (ha : PA X (e :: es) t)
    (hst : starEach (e :: es) X.env = (false, eval e X.env) :: starEach es X.env := by rfl) (hpl : (backTo pos (starEach es X.env)).any (·.1) = false := by rfl)
    (ht : eval (.Call (.Attribute o m apos) (e :: es) [] pos) X.env = (do
      let ov ← eval o X.env
      standAt apos.atName
      let (f, first) ← holding [ov] (getMethod ov m pl)
      callWith pos f first (backTo pos (starEach (e :: es) X.env)) (backToKw pos (keywordEach [] X.env))) := by rfl) :
    PE X (.Call (.Attribute o m apos) (e :: es) [] pos) (tMeth2 C1 C2 m sp1 sp2 (WE W) ta t) := by
  obtain ⟨f1, fd1, hm1, b1, G1⟩ := D1.ex
  obtain ⟨f2, fd2, hm2, b2, G2⟩ := D2.ex
  refine ⟨fun pins s σ H Q I h => ?_⟩
  refine PySem.W.methodCall_KW (pl := pl) (thn (he.run pins s σ H _ I h) fun u s1 ⟨x, H1, I1, rx, h1⟩ => ?_) ht
  rcases h1 with ⟨a, dx, fs, ex, ea, l, q⟩ | ⟨a, dx, fs, ex, ea, l, q⟩
  · subst ex
    obtain rfl : u = Value.ref a := rx
    refine getmeth_ok I1 ea c1 hm1 l ?_
    refine PySem.W.callWith_K (first := [.ref a]) (h₀ := X.base) I.ok.mod.kin hm1.kp (thn (ha.run pos pins s1 σ H1 _ I1 q) fun us s2 ⟨vs, H2, I2, r, q2⟩ => ⟨I2.kIn, ?_⟩) hst hpl
    exact run_fnS (us := .ref a :: us) (vs := .ref a :: vs) G1 hr1 b1 (L2N.passAt tk σ) I2 (.cons rfl r) q2
  · subst ex
    obtain rfl : u = Value.ref a := rx
    refine getmeth_ok I1 ea c2 hm2 l ?_
    refine PySem.W.callWith_K (first := [.ref a]) (h₀ := X.base) I.ok.mod.kin hm2.kp (thn (ha.run pos pins s1 σ H1 _ I1 q) fun us s2 ⟨vs, H2, I2, r, q2⟩ => ⟨I2.kIn, ?_⟩) hst hpl
    exact run_fnS (us := .ref a :: us) (vs := .ref a :: vs) G2 hr2 b2 (L2N.passAt tk σ) I2 (.cons rfl r) q2
/-- the same in a def that lets nothing out -/
theorem pe_dm2E {pl : Sem Bool} (he : PE X o ta) (c1 : Cls X.K C1) (D1 : Dm X.prog X.w X.K X.mg X.base k1 C1 m ps sp1) (c2 : Cls X.K C2) (D2 : Dm X.prog X.w X.K X.mg X.base k2 C2 m ps sp2) (hr1 : Room k1 X.A) (hr2 : Room k2 X.A) (ha : PA X (e :: es) t)
    (hst : starEach (e :: es) X.env = (false, eval e X.env) :: starEach es X.env := by rfl) (hpl : (backTo pos (starEach es X.env)).any (·.1) = false := by rfl)
    (ht : eval (.Call (.Attribute o m apos) (e :: es) [] pos) X.env = (do
      let ov ← eval o X.env
      standAt apos.atName
      let (f, first) ← holding [ov] (getMethod ov m pl)
      callWith pos f first (backTo pos (starEach (e :: es) X.env)) (backToKw pos (keywordEach [] X.env))) := by rfl) :
    PE X (.Call (.Attribute o m apos) (e :: es) [] pos) (tMeth2 C1 C2 m sp1 sp2 (fun _ => E0) ta t) := by
  obtain ⟨f1, fd1, hm1, b1, G1⟩ := D1.ex
  obtain ⟨f2, fd2, hm2, b2, G2⟩ := D2.ex
  refine ⟨fun pins s σ H Q I h => ?_⟩
  refine PySem.W.methodCall_KW (pl := pl) (thn (he.run pins s σ H _ I h) fun u s1 ⟨x, H1, I1, rx, h1⟩ => ?_) ht
  rcases h1 with ⟨a, dx, fs, ex, ea, l, q⟩ | ⟨a, dx, fs, ex, ea, l, q⟩
  · subst ex
    obtain rfl : u = Value.ref a := rx
    refine getmeth_ok I1 ea c1 hm1 l ?_
    refine PySem.W.callWith_K (first := [.ref a]) (h₀ := X.base) I.ok.mod.kin hm1.kp (thn (ha.run pos pins s1 σ H1 _ I1 q) fun us s2 ⟨vs, H2, I2, r, q2⟩ => ⟨I2.kIn, ?_⟩) hst hpl
    exact run_fnS (E := fun _ => E0) (us := .ref a :: us) (vs := .ref a :: vs) G1 hr1 b1 (fun pins' H' s' e s'' I' h' => passL pins' σ H' s' e s'' I' h') I2 (.cons rfl r) q2
  · subst ex
    obtain rfl : u = Value.ref a := rx
    refine getmeth_ok I1 ea c2 hm2 l ?_
    refine PySem.W.callWith_K (first := [.ref a]) (h₀ := X.base) I.ok.mod.kin hm2.kp (thn (ha.run pos pins s1 σ H1 _ I1 q) fun us s2 ⟨vs, H2, I2, r, q2⟩ => ⟨I2.kIn, ?_⟩) hst hpl
    exact run_fnS (E := fun _ => E0) (us := .ref a :: us) (vs := .ref a :: vs) G2 hr2 b2 (fun pins' H' s' e s'' I' h' => passL pins' σ H' s' e s'' I' h') I2 (.cons rfl r) q2
/-- the same without arguments -/
theorem pe_dm20E {pl : Sem Bool} (he : PE X o ta) (c1 : Cls X.K C1) (D1 : Dm X.prog X.w X.K X.mg X.base k1 C1 m ps sp1) (c2 : Cls X.K C2) (D2 : Dm X.prog X.w X.K X.mg X.base k2 C2 m ps sp2) (hr1 : Room k1 X.A) (hr2 : Room k2 X.A)
    (ht : eval (.Call (.Attribute o m apos) [] [] pos) X.env = (do
      let ov ← eval o X.env
      standAt apos.atName
      let (f, first) ← holding [ov] (getMethod ov m pl)
      callWith pos f first (backTo pos (starEach [] X.env)) (backToKw pos (keywordEach [] X.env))) := by rfl) :
    PE X (.Call (.Attribute o m apos) [] [] pos) (tMeth2 C1 C2 m sp1 sp2 (fun _ => E0) ta tNil) := by
  obtain ⟨f1, fd1, hm1, b1, G1⟩ := D1.ex
  obtain ⟨f2, fd2, hm2, b2, G2⟩ := D2.ex
  refine ⟨fun pins s σ H Q I h => ?_⟩
  refine PySem.W.methodCall_KW (pl := pl) (thn (he.run pins s σ H _ I h) fun u s1 ⟨x, H1, I1, rx, h1⟩ => ?_) ht
  rcases h1 with ⟨a, dx, fs, ex, ea, l, q⟩ | ⟨a, dx, fs, ex, ea, l, q⟩
  · subst ex
    obtain rfl : u = Value.ref a := rx
    refine getmeth_ok I1 ea c1 hm1 l ?_
    exact PySem.W.callWith_K0 (first := [.ref a]) I1.kIn hm1.kp (run_fn (us := [.ref a]) (vs := [.ref a]) G1 hr1 b1 .nil passL I1 (.cons rfl .nil) q)
  · subst ex
    obtain rfl : u = Value.ref a := rx
    refine getmeth_ok I1 ea c2 hm2 l ?_
    exact PySem.W.callWith_K0 (first := [.ref a]) I1.kIn hm2.kp (run_fn (us := [.ref a]) (vs := [.ref a]) G2 hr2 b2 .nil passL I1 (.cons rfl .nil) q)
end
section
variable {Z : Bs} {F H : Hp} {σ : L2.St} {Γ : Gm} {Ω Ω' Ωr : Om} {K : PySem.W.Frag} {ta tb te : TE} {t tas : TA} {sp : Sp} {Rs : List As} {R : As} {p C C' dx D : Addr} {m : Str} {fs : List (Str × As)} {j : Nat} {E : L2.St → XK} {sp' : Sp}
theorem ev_meth2l {α : Type} {args : α → List As} {Oi : α → Om} {pre : α → Prop} {res : α → As} (hsub : ∀ vs H Q E, CtR args Oi pre res vs H Q E → sp vs H Q E) (a : α) (ho : Ev Γ Ω ta (Rf p)) (hm : Ω[j]? = some (p, oI C dx fs)) (hn : fs.lookup m = none) (h : EvA Γ Ω t Rs) (ha : args a = Rf p :: Rs) (hs : (Oi a).Sublist Ω) (hp : pre a) :
    Ev Γ Ω (tMeth2 C C' m sp sp' E ta t) (res a) := fun Z F H σ c Q q =>
  ho Z F H σ c _ fun x F1 H1 c1 s1 rx => by
    cases rx
    obtain ⟨_, o, h2, vs, eo, hf⟩ := c1.own _ (List.mem_of_getElem? hm)
    subst eo
    refine .inl ⟨p, dx, vs, rfl, h2, hf.none hn, h Z F1 H1 σ c1 _ fun ws F2 H2 c2 s2 rs => hsub _ _ _ _ ?_⟩
    exact ⟨a, F2, c2.sub, by rw [ha]; exact ⟨rfl, rs⟩, c2.own.sub fun x hx => hs.subset hx, nodup_sub c2.nd hs, hp, fun v F3 H3 e3 s3 rv => q v F3 H3 (c2.step e3 s3) (s1.trans (s2.trans e3)) rv⟩
theorem ev_meth2r {α : Type} {args : α → List As} {Oi : α → Om} {pre : α → Prop} {res : α → As} (hsub : ∀ vs H Q E, CtR args Oi pre res vs H Q E → sp vs H Q E) (a : α) (ho : Ev Γ Ω ta (Rf p)) (hm : Ω[j]? = some (p, oI C dx fs)) (hn : fs.lookup m = none) (h : EvA Γ Ω t Rs) (ha : args a = Rf p :: Rs) (hs : (Oi a).Sublist Ω) (hp : pre a) :
    Ev Γ Ω (tMeth2 C' C m sp' sp E ta t) (res a) := fun Z F H σ c Q q =>
  ho Z F H σ c _ fun x F1 H1 c1 s1 rx => by
    cases rx
    obtain ⟨_, o, h2, vs, eo, hf⟩ := c1.own _ (List.mem_of_getElem? hm)
    subst eo
    refine .inr ⟨p, dx, vs, rfl, h2, hf.none hn, h Z F1 H1 σ c1 _ fun ws F2 H2 c2 s2 rs => hsub _ _ _ _ ?_⟩
    exact ⟨a, F2, c2.sub, by rw [ha]; exact ⟨rfl, rs⟩, c2.own.sub fun x hx => hs.subset hx, nodup_sub c2.nd hs, hp, fun v F3 H3 e3 s3 rv => q v F3 H3 (c2.step e3 s3) (s1.trans (s2.trans e3)) rv⟩
theorem em_meth2l {α : Type} {args : α → List As} {Oi Oo : α → Om} {pre : α → Prop} {res : α → As} (hsub : ∀ vs H Q E, CtM args Oi pre res Oo vs H Q E → sp vs H Q E) (a : α) (ho : Ev Γ Ω ta (Rf p)) (hm : Ω[j]? = some (p, oI C dx fs)) (hn : fs.lookup m = none) (h : EvA Γ Ω t Rs) (ha : args a = Rf p :: Rs) (hs : Ω.Perm (Oi a ++ Ωr)) (hp : pre a)
    (hoo : (Oo a).map (·.1) = (Oi a).map (·.1)) (hw : ∀ x ∈ (Oi a).map (·.1), Wr Z x) : EvM Z Γ Ω (tMeth2 C C' m sp sp' E ta t) (res a) (Oo a ++ Ωr) := fun F H σ c Q k =>
  ho Z F H σ c _ fun x F1 H1 c1 s1 rx => by
    cases rx
    obtain ⟨_, o, h2, vs, eo, hf⟩ := c1.own _ (List.mem_of_getElem? hm)
    subst eo
    refine .inl ⟨p, dx, vs, rfl, h2, hf.none hn, h Z F1 H1 σ c1 _ fun ws F2 H2 c2 s2 rs => hsub _ _ _ _ ?_⟩
    have cp := c2.perm hs
    have nd := cp.nd
    rw [List.map_append, List.nodup_append] at nd
    exact ⟨a, F2, c2.sub, by rw [ha]; exact ⟨rfl, rs⟩, cp.own.sub fun x hx => List.mem_append_left _ hx, nd.1, hp, fun v F3 H3 e3 s3 rv ow => k v F3 H3 (cp.changedG e3 s3 ow (by rw [hoo]; exact nd.1) (fun x hx => .inl (by rw [← hoo]; exact hx)) hw) ((s1.trans s2).fe.trans e3.fe) rv⟩
theorem em_meth2r {α : Type} {args : α → List As} {Oi Oo : α → Om} {pre : α → Prop} {res : α → As} (hsub : ∀ vs H Q E, CtM args Oi pre res Oo vs H Q E → sp vs H Q E) (a : α) (ho : Ev Γ Ω ta (Rf p)) (hm : Ω[j]? = some (p, oI C dx fs)) (hn : fs.lookup m = none) (h : EvA Γ Ω t Rs) (ha : args a = Rf p :: Rs) (hs : Ω.Perm (Oi a ++ Ωr)) (hp : pre a)
    (hoo : (Oo a).map (·.1) = (Oi a).map (·.1)) (hw : ∀ x ∈ (Oi a).map (·.1), Wr Z x) : EvM Z Γ Ω (tMeth2 C' C m sp' sp E ta t) (res a) (Oo a ++ Ωr) := fun F H σ c Q k =>
  ho Z F H σ c _ fun x F1 H1 c1 s1 rx => by
    cases rx
    obtain ⟨_, o, h2, vs, eo, hf⟩ := c1.own _ (List.mem_of_getElem? hm)
    subst eo
    refine .inr ⟨p, dx, vs, rfl, h2, hf.none hn, h Z F1 H1 σ c1 _ fun ws F2 H2 c2 s2 rs => hsub _ _ _ _ ?_⟩
    have cp := c2.perm hs
    have nd := cp.nd
    rw [List.map_append, List.nodup_append] at nd
    exact ⟨a, F2, c2.sub, by rw [ha]; exact ⟨rfl, rs⟩, cp.own.sub fun x hx => List.mem_append_left _ hx, nd.1, hp, fun v F3 H3 e3 s3 rv ow => k v F3 H3 (cp.changedG e3 s3 ow (by rw [hoo]; exact nd.1) (fun x hx => .inl (by rw [← hoo]; exact hx)) hw) ((s1.trans s2).fe.trans e3.fe) rv⟩
theorem rz_meth2l {α : Type} {args : α → List As} {Oi : α → Om} {pre : α → Prop} {Da : α → Addr} (hsub : ∀ vs H Q E, CtN args Oi pre Da vs H Q E → sp vs H Q E) (a : α) (ho : Ev Γ Ω ta (Rf p)) (hm : Ω[j]? = some (p, oI C dx fs)) (hn : fs.lookup m = none) (h : EvA Γ Ω t Rs) (ha : args a = Rf p :: Rs) (hs : (Oi a).Sublist Ω) (hp : pre a) :
    Rz E (Da a) Γ Ω (tMeth2 C C' m sp sp' E ta t) := fun Z F H σ c k Q =>
  ho Z F H σ c _ fun x F1 H1 c1 s1 rx => by
    cases rx
    obtain ⟨_, o, h2, vs, eo, hf⟩ := c1.own _ (List.mem_of_getElem? hm)
    subst eo
    refine .inl ⟨p, dx, vs, rfl, h2, hf.none hn, h Z F1 H1 σ c1 _ fun ws F2 H2 c2 s2 rs => hsub _ _ _ _ ?_⟩
    exact ⟨a, F2, c2.sub, by rw [ha]; exact ⟨rfl, rs⟩, c2.own.sub fun x hx => hs.subset hx, nodup_sub c2.nd hs, hp, fun F3 H3 e3 s3 => k F3 H3 (c2.step e3 s3) (s1.trans (s2.trans e3))⟩
theorem rz_meth2r {α : Type} {args : α → List As} {Oi : α → Om} {pre : α → Prop} {Da : α → Addr} (hsub : ∀ vs H Q E, CtN args Oi pre Da vs H Q E → sp vs H Q E) (a : α) (ho : Ev Γ Ω ta (Rf p)) (hm : Ω[j]? = some (p, oI C dx fs)) (hn : fs.lookup m = none) (h : EvA Γ Ω t Rs) (ha : args a = Rf p :: Rs) (hs : (Oi a).Sublist Ω) (hp : pre a) :
    Rz E (Da a) Γ Ω (tMeth2 C' C m sp' sp E ta t) := fun Z F H σ c k Q =>
  ho Z F H σ c _ fun x F1 H1 c1 s1 rx => by
    cases rx
    obtain ⟨_, o, h2, vs, eo, hf⟩ := c1.own _ (List.mem_of_getElem? hm)
    subst eo
    refine .inr ⟨p, dx, vs, rfl, h2, hf.none hn, h Z F1 H1 σ c1 _ fun ws F2 H2 c2 s2 rs => hsub _ _ _ _ ?_⟩
    exact ⟨a, F2, c2.sub, by rw [ha]; exact ⟨rfl, rs⟩, c2.own.sub fun x hx => hs.subset hx, nodup_sub c2.nd hs, hp, fun F3 H3 e3 s3 => k F3 H3 (c2.step e3 s3) (s1.trans (s2.trans e3))⟩
end
/-! ## slices of texts; a new list frozen inside a def that changes what it owns -/
section
variable {Z : Bs} {F H : Hp} {σ : L2.St} {Γ : Gm} {Ω : Om} {K : PySem.W.Frag} {te : TE} {Rs : List As} {p : Addr} {i j : Nat}
theorem ev_slS {z : Str} {tl th : TO} {lo hi : Option Int} (h : Ev Γ Ω te (S z)) (h1 : EvO Γ Ω tl lo) (h2 : EvO Γ Ω th hi) (hz : z.length ≤ sizeLine) : Ev Γ Ω (tSl rSlS te tl th) (S (cutS z lo hi)) := fun Z F H σ c Q q =>
  h Z F H σ c _ fun v F1 H1 c1 s1 rv => h1 Z F1 H1 σ c1 _ fun F2 H2 c2 s2 => h2 Z F2 H2 σ c2 _ fun F3 H3 c3 s3 => by
    cases rv
    exact ⟨z, rfl, hz, q _ F3 H3 c3 (s1.trans (s2.trans s3)) rfl⟩
theorem Ctx.frzSW (c : Ctx Z F H σ Γ Ω) (hi : Γ[i]? = some (some (Rf p))) (hm : Ω[j]? = some (p, oL Rs)) (hz : Z.H p = none) : ∃ F', Same F F' ∧ Ctx Z F' H σ (Γ.set i (some (Ls K Rs))) (Ω.eraseIdx j) := by
  obtain ⟨F', s, c', q⟩ := c.frzW (K := K) hm rdL hz
  obtain ⟨v, e1, e2⟩ := c.sat.get hi
  have e2 : v = .ref p := e2
  subst e2
  have z := c'.set i q
  rw [set_same e1] at z
  exact ⟨F', s, z⟩
end
theorem ty_str {K : PySem.W.Frag} {x : Str} : HasTy K (S x) (.type "str") := ⟨fun F H v s e => by cases e; exact .base (.str x)⟩
end Y

namespace Y
open PySem L2 PySem.Spec
open PyProof.Rows (envOfC)
section
variable {Γ : Gm} {Ω : Om} {K : PySem.W.Frag} {ta tb te : TE} {Rs Ss : List As} {p p1 p2 : Addr} {j j1 j2 : Nat}
/-- a slice, owned -/
theorem eo_sl {tl th : TO} {lo hi : Option Int} (ha : Lk K Γ Ω ta Rs) (h1 : EvO Γ Ω tl lo) (h2 : EvO Γ Ω th hi) : EvNw Γ Ω (tSl (rSlL K) ta tl th) (oL (cutA Rs lo hi)) := fun Z F H σ c Q q =>
  ha Z F H σ c _ fun a F1 H1 c1 s1 hs => h1 Z F1 H1 σ c1 _ fun F2 H2 c2 s2 => h2 Z F2 H2 σ c2 _ fun F3 H3 c3 s3 => by
    obtain ⟨xs, hs1, hl⟩ := hs F3 H3 c3 (s2.trans s3).fe
    refine ⟨a, xs, rfl, hs1, fun p hp => ?_⟩
    have hz : All F3 (cutA Rs lo hi) (cutV xs lo hi) := by
      unfold cutA cutV
      rw [hl.length]
      exact (hl.drop _).take _
    exact q p F3 _ (c3.grow (A := oL (cutA Rs lo hi)) hp ⟨_, rfl, hz⟩) ((s1.trans (s2.trans s3)).trans (Ext.newH hp)) ((s1.trans (s2.trans s3)).dm _ hp)
/-- l + m, owned -/
theorem eo_cat (ha : Lw Γ Ω ta Rs) (hb : Lw Γ Ω tb Ss) (hn : Rs.length + Ss.length ≤ 1000000) : EvNw Γ Ω (tOp rCat ta tb) (oL (Rs ++ Ss)) := fun Z F H σ c Q q =>
  ha Z F H σ c _ fun a F1 H1 c1 s1 ⟨xs, e1, l1⟩ => hb Z F1 H1 σ c1 _ fun b F2 H2 c2 s2 ⟨ys, e2, l2⟩ => by
    have l1' := l1.mono s2.fe
    refine ⟨a, b, xs, ys, rfl, rfl, c2.sub _ _ (s2.fe _ _ e1), c2.sub _ _ e2, by rw [← l1.length, ← l2.length] at *; exact Nat.le_trans hn (by decide), fun p hp => ?_⟩
    exact q p F2 _ (c2.grow (A := oL (Rs ++ Ss)) hp ⟨_, rfl, l1'.app l2⟩) ((s1.trans s2).trans (Ext.newH hp)) ((s1.trans s2).dm _ hp)
theorem eo_is {A B : OA} (h : EvNw Γ Ω te A) (e : A = B) : EvNw Γ Ω te B := e ▸ h
/-- d != e, of texts and whole numbers, alike -/
theorem ev_neSS {l1 l2 : List (Str × Int)} (h1 : Ev Γ Ω ta (Rf p1)) (m1 : Ω[j1]? = some (p1, oS (l1.map fun x => (x.1, I x.2)))) (h2 : Ev Γ Ω tb (Rf p2)) (m2 : Ω[j2]? = some (p2, oS (l2.map fun x => (x.1, I x.2)))) (hl : l1.length = l2.length) (hh : ∀ x ∈ l1, getS x.1 l2 = some x.2) : Ev Γ Ω (tOp rNeDA ta tb) (B false) := fun Z F H σ c Q q =>
  h1 Z F H σ c _ fun v F1 H1 c1 s1 rv => h2 Z F1 H1 σ c1 _ fun w F2 H2 c2 s2 rw' => by
    cases rv
    cases rw'
    obtain ⟨_, o, e1, k1, eo1, a1⟩ := c2.own _ (List.mem_of_getElem? m1)
    obtain ⟨_, o', e2, k2, eo2, a2⟩ := c2.own _ (List.mem_of_getElem? m2)
    subst eo1 eo2
    have z1 := allS_int a1
    have z2 := allS_int a2
    subst z1 z2
    refine ⟨p1, p2, _, _, rfl, rfl, e1, e2, by rw [List.length_map, List.length_map, hl], fun y hy => ?_, q _ F2 H2 c2 (s1.trans s2) rfl⟩
    obtain ⟨x, hx, ex⟩ := List.mem_map.mp hy
    subst ex
    exact ⟨valV_int (hh x hx), rfl⟩
theorem ev_addS {x y : Str} (ha : Ev Γ Ω ta (S x)) (hb : Ev Γ Ω tb (S y)) (h : x.length + y.length ≤ sizeLine) : Ev Γ Ω (tOp (fun x y H Q => ∃ i j, x = .str i ∧ y = .str j ∧ i.length + j.length ≤ sizeLine ∧ Q (.str (i ++ j)) H) ta tb) (S (x ++ y)) := ev_op ha hb fun F H v w s e e' Q q => ⟨x, y, e, e', h, q _ F H (Ext.refl _ _ _) s rfl⟩
theorem oV_inj {a b : Option Str} : decide (oV a = oV b) = decide (a = b) := by
  cases a <;> cases b <;> simp [oV]
theorem ev_neOO {o u : Option Str} (ha : Ev Γ Ω ta (Op (fun x => S x) o)) (hb : Ev Γ Ω tb (Op (fun x => S x) u)) : Ev Γ Ω (tOp rNe ta tb) (B (!decide (o = u))) := ev_op ha hb fun F H v w s e e' Q q => by
  have e := op_oV e
  have e' := op_oV e'
  subst e e'
  refine ⟨by cases o <;> cases u <;> rfl, ?_⟩
  rw [oV_inj]
  exact q _ F H (Ext.refl _ _ _) s rfl
theorem ev_eqOO {o u : Option Str} (ha : Ev Γ Ω ta (Op (fun x => S x) o)) (hb : Ev Γ Ω tb (Op (fun x => S x) u)) : Ev Γ Ω (tOp rEq ta tb) (B (decide (o = u))) := ev_op ha hb fun F H v w s e e' Q q => by
  have e := op_oV e
  have e' := op_oV e'
  subst e e'
  refine ⟨by cases o <;> cases u <;> rfl, ?_⟩
  rw [oV_inj]
  exact q _ F H (Ext.refl _ _ _) s rfl
end
/-! ## a method that reads and hands out something new -/
def CtRO {α : Type} (args : α → List As) (Oi : α → Om) (pre : α → Prop) (A : α → OA) : Sp := fun vs H Q _ =>
  ∃ a F, Same F H ∧ All F (args a) vs ∧ Own F H (Oi a) ∧ ((Oi a).map (·.1)).Nodup ∧ pre a ∧ ∀ p F' H', Ext [] F H F' H' → Same F' H' → H p = none → Own F' H' [(p, A a)] → Q (.ref p) H'
theorem CtRO.len {α : Type} {args : α → List As} {Oi : α → Om} {pre : α → Prop} {A : α → OA} {n : Nat} (h : ∀ a, (args a).length = n) : ∀ vs H Q E, CtRO args Oi pre A vs H Q E → vs.length = n := by
  rintro vs H Q E ⟨a, F, _, ha, _⟩
  rw [ha.length, h]
section
variable {Z : Bs} {F H : Hp} {σ : L2.St} {Γ : Gm} {Ω Ωr : Om} {K : PySem.W.Frag} {ta tb te : TE} {t tr : TA} {sp : Sp} {Rs : List As} {R : As} {p C dx : Addr} {m : Str} {fs : List (Str × As)} {j : Nat} {E : XK}
theorem eo_meth {α : Type} {args : α → List As} {Oi : α → Om} {pre : α → Prop} {A : α → OA} (a : α) (ho : Ev Γ Ω ta (Rf p)) (hm : Ω[j]? = some (p, oI C dx fs)) (hn : fs.lookup m = none) (h : EvA Γ Ω t Rs) (ha : args a = Rf p :: Rs) (hs : (Oi a).Sublist Ω) (hp : pre a) :
    EvNw Γ Ω (tMeth C m (CtRO args Oi pre A) [] E ta t) (A a) := fun Z F H σ c Q q =>
  ho Z F H σ c _ fun x F1 H1 c1 s1 rx => by
    cases rx
    obtain ⟨_, o, h2, vs, eo, hf⟩ := c1.own _ (List.mem_of_getElem? hm)
    subst eo
    refine ⟨p, dx, vs, rfl, h2, hf.none hn, h Z F1 H1 σ c1 _ fun ws F2 H2 c2 s2 rs => ?_⟩
    refine ⟨a, F2, c2.sub, ?_, c2.own.sub fun x hx => hs.subset hx, nodup_sub c2.nd hs, hp, fun q0 F3 H3 e3 s3 hq0 ow => q q0 F3 H3 (c2.add e3 s3 ow hq0) (s1.trans (s2.trans e3)) ((s1.trans s2).dm _ hq0)⟩
    rw [ha, List.append_nil]
    exact ⟨rfl, rs⟩
theorem eo_callRO {α : Type} {args : α → List As} {Oi : α → Om} {pre : α → Prop} {A : α → OA} (hsub : ∀ vs H Q E, CtRO args Oi pre A vs H Q E → sp vs H Q E) (a : α) (h : EvA Γ Ω t (args a)) (hs : (Oi a).Sublist Ω) (hp : pre a) :
    EvNw Γ Ω (tCall sp [] E t) (A a) := fun Z F H σ c Q q =>
  h Z F H σ c _ fun ws F2 H2 c2 s2 rs => hsub _ _ _ _ ⟨a, F2, c2.sub, by rw [List.append_nil]; exact rs, c2.own.sub fun x hx => hs.subset hx, nodup_sub c2.nd hs, hp, fun q0 F3 H3 e3 s3 hq0 ow => q q0 F3 H3 (c2.add e3 s3 ow hq0) (s2.trans e3) (s2.dm _ hq0)⟩
theorem loc_new (c : Ctx Z F H σ Γ Ω) (hro : Z.ro = []) : ∀ x ∈ Ω.map (·.1), x ∈ Z.ft ∨ Z.H x = none := fun x hx => by
  obtain ⟨y, hy, e⟩ := List.mem_map.mp hx
  subst e
  rcases c.loc y hy with l | l | l
  · exact .inl l
  · exact .inr l
  · rw [hro] at l; exact absurd l List.not_mem_nil
/-- arguments of which one is something new, owned -/
def EvAn (Γ : Gm) (Ω : Om) (t : TA) (Rs : Addr → List As) (A : OA) : Prop := ∀ (Z : Bs) (F H : Hp) (σ : L2.St), Ctx Z F H σ Γ Ω → ∀ Q : List V → Hp → Prop, (∀ p vs F' H', Ctx Z F' H' σ Γ ((p, A) :: Ω) → Ext [] F H F' H' → H p = none → All F' (Rs p) vs → Q vs H') → t σ H Q
theorem ean_here {A : OA} {Rs : Addr → List As} (h : EvNw Γ Ω te A) (hr : ∀ p, EvA Γ ((p, A) :: Ω) t (Rs p)) : EvAn Γ Ω (tCons te t) (fun p => Rf p :: Rs p) A := fun Z F H σ c Q q =>
  h Z F H σ c _ fun p F1 H1 c1 s1 hp => hr p Z F1 H1 σ c1 _ fun vs F2 H2 c2 s2 rs => q p _ F2 H2 c2 (s1.trans s2) hp ⟨rfl, rs⟩
theorem ean_tail {A : OA} {Rs : Addr → List As} (h : Ev Γ Ω te R) (hr : EvAn Γ Ω t Rs A) : EvAn Γ Ω (tCons te t) (fun p => R :: Rs p) A := fun Z F H σ c Q q =>
  h Z F H σ c _ fun v F1 H1 c1 s1 rv => hr Z F1 H1 σ c1 _ fun p vs F2 H2 c2 s2 hp rs => q p _ F2 H2 c2 (s1.trans s2) (s1.dm _ hp) ⟨R.mono s2.fe rv, rs⟩
/-- f(.., something new, ..), f reads -/
theorem ev_callRn {α : Type} {args : α → List As} {Oi : α → Om} {pre : α → Prop} {res : α → As} {A : OA} {R : As} (a : Addr → α) (h : EvAn Γ Ω t (fun p => args (a p)) A) (hs : ∀ p, (Oi (a p)).Sublist ((p, A) :: Ω)) (hp : ∀ p, pre (a p)) (hr : ∀ p, res (a p) = R) : Ev Γ Ω (tCall (CtR args Oi pre res) [] E t) R := fun Z F H σ c Q q =>
  h Z F H σ c _ fun p vs F1 H1 c1 s1 hn rs => ⟨a p, F1, c1.sub, by rw [List.append_nil]; exact rs, c1.own.sub fun x hx => (hs p).subset hx, nodup_sub c1.nd (hs p), hp p, fun v F2 H2 e2 s2 r => q v F2 H2 (c1.step e2 s2).tail (s1.trans e2) (by rw [← hr p]; exact r)⟩
theorem cl_GS {α β : Type} {args : α → List As} {Oi : α → Om} {pre : α → Prop} {post : α → β → Prop} {res : α → β → As} {Oo : α → β → Om} {t : TA} {Q : VK} (hsub : ∀ vs H Q E, CtG args Oi pre post res Oo vs H Q E → sp vs H Q E) (a : α) (c : Ctx Z F H σ Γ Ω) (h : EvA Γ Ω t (args a)) (hs : Ω.Perm (Oi a ++ Ωr)) (hp : pre a) (hw : ∀ x ∈ (Oi a).map (·.1), Wr Z x)
    (k : ∀ b v F' H', post a b → Ctx Z F' H' σ Γ (Oo a b ++ Ωr) → Same F F' → (res a b).p F' v → Q v H') : tCall sp [] E t σ H Q :=
  h Z F H σ c _ fun vs F1 H1 c1 s1 rs => by
    have cp := c1.perm hs
    have nd := cp.nd
    rw [List.map_append, List.nodup_append] at nd
    exact hsub _ _ _ _ ⟨a, F1, cp.sub, by rw [List.append_nil]; exact rs, cp.own.sub fun x hx => List.mem_append_left _ hx, nd.1, hp, fun b v F3 H3 hb e3 s3 rv ow nd2 hn => k b v F3 H3 hb (cp.changedG e3 s3 ow nd2 hn hw) (s1.fe.trans e3.fe) rv⟩
theorem wr_all {O : Om} (c : Ctx Z F H σ Γ Ω) (hro : Z.ro = []) (h : O.Sublist Ω) : ∀ x ∈ O.map (·.1), Wr Z x := fun x hx => by
  obtain ⟨⟨q, A⟩, hy, e⟩ := List.mem_map.mp hx
  subst e
  obtain ⟨j, hj⟩ := List.getElem?_of_mem (h.subset hy)
  exact c.wr (j := j) hj hro
theorem st_ifNG {te : TE} {t1 t2 : TS} {D : Ends} (h : te σ H (fun x H1 => ∃ c, x = .bl c ∧ (if (!c) = true then t1 D σ H1 else t2 D σ H1))) : tIfS (tNot (tB te)) t1 t2 D σ H := h
theorem Ctx.subl {Ω' : Om} (c : Ctx Z F H σ Γ Ω) (h : Ω'.Sublist Ω) : Ctx Z F H σ Γ Ω' := ⟨c.sat, c.sub, c.own.sub fun x hx => h.subset hx, nodup_sub c.nd h, fun x hx => c.loc x (h.subset hx), c.ext, c.pin⟩
theorem setX {i : Nat} {n : L2.St → Hp → Prop} {r : VK} {bk ct : L2.St → Hp → Prop} (h : te σ H (fun v H' => n (σ.set i (some v)) H')) : tAsg te (gName i) ⟨n, r, bk, ct⟩ σ H := h
end
/-! ## a method that changes, handed an owned list as if it were frozen -/
def IndO (A : OA) : Prop := ∀ (F : Hp) (p : Addr) (xs : List V) (o : HO), F p = some (.lst xs) → A.p F o → A.p (minus F p) o
theorem ind_allF {F : Hp} {p : Addr} {xs : List V} (hp : F p = some (.lst xs)) : ∀ {fs : List (Str × As)} {vs : List (Str × V)}, (∀ f ∈ fs, Ind0 f.2) → AllF F fs vs → AllF (minus F p) fs vs
  | [], [], _, _ => trivial
  | [], _ :: _, _, h => h.elim
  | _ :: _, [], _, h => h.elim
  | (_, R) :: fs, (_, v) :: vs, hi, h => ⟨h.1, hi _ List.mem_cons_self F p xs v hp h.2.1, ind_allF hp (fun S hS => hi S (List.mem_cons_of_mem _ hS)) h.2.2⟩
theorem ind_allS {F : Hp} {p : Addr} {xs : List V} (hp : F p = some (.lst xs)) : ∀ {fs : List (Str × As)} {vs : List (Key × V)}, (∀ f ∈ fs, Ind0 f.2) → AllS F fs vs → AllS (minus F p) fs vs
  | [], [], _, _ => trivial
  | [], _ :: _, _, h => h.elim
  | _ :: _, [], _, h => h.elim
  | (_, R) :: fs, (_, v) :: vs, hi, h => ⟨h.1, hi _ List.mem_cons_self F p xs v hp h.2.1, ind_allS hp (fun S hS => hi S (List.mem_cons_of_mem _ hS)) h.2.2⟩
theorem indO_I {C dx : Addr} {fs : List (Str × As)} (h : ∀ f ∈ fs, Ind0 f.2) : IndO (oI C dx fs) := fun F p xs o hp ⟨vs, e, a⟩ => ⟨vs, e, ind_allF hp h a⟩
theorem indO_S {l : List (Str × As)} (h : ∀ f ∈ l, Ind0 f.2) : IndO (oS l) := fun F p xs o hp ⟨vs, e, a⟩ => ⟨vs, e, ind_allS hp h a⟩
theorem indO_L {l : List As} (h : ∀ f ∈ l, Ind0 f) : IndO (oL l) := fun F p xs o hp ⟨vs, e, a⟩ => ⟨vs, e, ind_all hp h a⟩
section
variable {Z : Bs} {F H : Hp} {σ : L2.St} {Γ : Gm} {Ω Ωr : Om} {K : PySem.W.Frag} {ta : TE} {t : TA} {sp : Sp} {Rs : List As} {p g C dx : Addr} {m : Str} {fs : List (Str × As)} {j jg : Nat} {E : L2.St → XK}
theorem em_methPk {α : Type} {args : α → List As} {Oi Oo : α → Om} {pre : α → Prop} {res : α → As} (hsub : ∀ vs H Q E, CtM args Oi pre res Oo vs H Q E → sp vs H Q E) (a : α) (ho : Ev Γ Ω ta (Rf p)) (hm : Ω[j]? = some (p, oI C dx fs)) (hn : fs.lookup m = none) (h : EvA Γ Ω t [Rf g]) (ha : args a = [Rf p, Ls K Rs]) (hs : Ω.Perm (Oi a ++ (g, oL Rs) :: Ωr)) (hp : pre a)
    (hoo : (Oo a).map (·.1) = (Oi a).map (·.1)) (hi : Ind0 (res a)) (hio : ∀ x ∈ Oo a, IndO x.2) (hw : ∀ x ∈ (Oi a).map (·.1), Wr Z x) : EvM Z Γ Ω (tMethX C m sp E ta t) (res a) (Oo a ++ (g, oL Rs) :: Ωr) := fun F H σ c Q k =>
  ho Z F H σ c _ fun x F1 H1 c1 s1 rx => by
    cases rx
    obtain ⟨_, o, h2, vs, eo, hf⟩ := c1.own _ (List.mem_of_getElem? hm)
    subst eo
    refine ⟨p, dx, vs, rfl, h2, hf.none hn, h Z F1 H1 σ c1 _ fun ws F2 H2 c2 s2 rs => hsub _ _ _ _ ?_⟩
    have cp := c2.perm hs
    have nd := cp.nd
    rw [List.map_append, List.nodup_append] at nd
    obtain ⟨g1, ob, g2, xs, eo, hx⟩ := cp.own (g, oL Rs) (List.mem_append_right _ List.mem_cons_self)
    subst eo
    dsimp only at g1 g2
    have hng : ∀ y ∈ Oi a, y.1 ≠ g := fun y hy z => nd.2.2 _ (List.mem_map_of_mem hy) g (List.mem_map_of_mem (f := (·.1)) (List.mem_cons_self (a := (g, oL Rs)) (l := Ωr))) z
    have ss : Same F2 (upd F2 g (.lst xs)) := fun b u z => by rw [upd_ne (ne_of_none z g1)]; exact z
    have sH : Same (upd F2 g (.lst xs)) H2 := fun b u z => by
      by_cases e : b = g
      · rw [e] at z ⊢; rw [upd_same] at z; rw [← z]; exact g2
      · rw [upd_ne e] at z; exact cp.sub b u z
    have ew : ws = [.ref g] := by
      match ws, rs with
      | [w], hr => obtain ⟨z, _⟩ := hr; rw [show w = V.ref g from z]
      | [], hr => exact hr.elim
      | _ :: _ :: _, hr => exact hr.2.elim
    subst ew
    refine ⟨a, upd F2 g (.lst xs), sH, by rw [ha]; exact ⟨rfl, ⟨g, xs, rfl, SqL.of upd_same, hx.mono ss⟩, trivial⟩, fun y hy => ?_, nd.1, hp, fun v F3 H3 e3 s3 rv ow => ?_⟩
    · obtain ⟨k1, o', k2, k3⟩ := cp.own y (List.mem_append_left _ hy)
      exact ⟨by rw [upd_ne (hng y hy)]; exact k1, o', k2, y.2.mono ss k3⟩
    · have hFp : F3 g = some (.lst xs) := e3.fe g _ upd_same
      have e4 : Ext ((Oi a).map (·.1)) F2 H2 (minus F3 g) H3 := ⟨fun b u z => minus_get (e3.fe b u (ss b u z)) (ne_of_none z g1), e3.fr, e3.dm, fun b hne hF => by
        unfold minus
        by_cases w : b = g
        · rw [if_pos w]
        · rw [if_neg w]
          exact e3.nw b hne (by rw [upd_ne w]; exact hF)⟩
      have s4 : Same (minus F3 g) H3 := fun b u z => by
        unfold minus at z
        by_cases w : b = g
        · rw [if_pos w] at z; cases z
        · rw [if_neg w] at z; exact s3 b u z
      have ow4 : Own (minus F3 g) H3 (Oo a) := fun y hy => by
        obtain ⟨k1, o', k2, k3⟩ := ow y hy
        refine ⟨?_, o', k2, hio y hy F3 g xs o' hFp k3⟩
        unfold minus
        split
        · rfl
        · exact k1
      exact k v _ H3 (cp.changedG e4 s4 ow4 (by rw [hoo]; exact nd.1) (fun x hx => .inl (by rw [← hoo]; exact hx)) hw) ((s1.trans s2).fe.trans e4.fe) (hi F3 g xs v hFp rv)
/-- something new put into a slot: that it is new is told -/
theorem st_setOn {te : TE} {n : L2.St → Hp → Prop} {r : VK} {bk ct : L2.St → Hp → Prop} {A : OA} {i : Nat} (c : Ctx Z F H σ Γ Ω) (e : EvNw Γ Ω te A) (k : ∀ p F' H' σ', Ctx Z F' H' σ' (Γ.set i (some (Rf p))) ((p, A) :: Ω) → Same F F' → Z.H p = none → n σ' H') : tAsg te (gName i) ⟨n, r, bk, ct⟩ σ H :=
  e Z F H σ c _ fun p F1 H1 c1 s1 hn => k p F1 H1 _ (c1.set i rfl) s1.fe (c.ext.dm _ hn)
end
end Y

namespace Y
open PySem L2 PySem.Spec
open PyProof.Rows (envOfC)
/-! ## dicts of data compared, alike -/
section
variable {X : Cx} {pins : List (Addr × Obj)} {σ : L2.St} {H : Hp} {s : Shared}
theorem hits_data (I : L2.Inv X pins σ H s) {A : Around} (hu : A.in1.units + 64 < cLine) {kvs : List (Key × V)} {vb : List (Key × Value)} (rb : KV kvs vb) {ks : List (Key × V)} {va : List (Key × Value)} (ra : KV ks va) :
    (∀ p ∈ ks, ∃ u d, valV kvs p.1 = some u ∧ Dp X.K H p.2 d ∧ Dp X.K H u d ∧ SeqAt.shaped d = true ∧ PyData.eqv d d = true) → PySem.W.KeqHits A.in1 s vb va true := by
  unfold KV at ra
  induction ra with
  | nil => intro _; exact .nil
  | @cons p q ps qs h t ih =>
    intro hp
    obtain ⟨h1, h2⟩ := h
    obtain ⟨u, d, e, d1, d2, sh, eq⟩ := hp p List.mem_cons_self
    have rr : RelO (some u) (valueAt vb p.1) := by rw [← e]; exact rb.val p.1
    obtain ⟨y, hy, ry⟩ := rr.some_of
    obtain ⟨k, v⟩ := q
    have h1' : p.1 = k := h1
    rw [h1'] at hy
    obtain ⟨as, r1⟩ := Dp.reads I d _ _ d1 h2
    obtain ⟨bs, r2⟩ := Dp.reads I d _ _ d2 ry
    have z := PySem.W.keq_at (A := A) r1 r2 sh sh hu
    rw [eq] at z
    show PySem.W.KeqHits A.in1 s vb ((k, v) :: qs) (true && true)
    exact .hit hy z (ih fun p' hm => hp p' (List.mem_cons_of_mem _ hm))
end
def rDV (K : PySem.W.Frag) (r : Bool) : R2 := fun x y H Q => ∃ a b ks ls, x = .ref a ∧ y = .ref b ∧ H a = some (.dK ks) ∧ H b = some (.dK ls) ∧ ks.length = ls.length ∧ (∀ p ∈ ks, ∃ u d, valV ls p.1 = some u ∧ Dp K H p.2 d ∧ Dp K H u d ∧ SeqAt.shaped d = true ∧ PyData.eqv d d = true) ∧ Q (.bl r) H
section
variable {X : Cx}
theorem op_eq_dictD (hu : X.A.units + 65 < cLine) : OpR X (compareOp .Eq) (rDV X.K true) := by
  intro pins s σ H x y v u Q I rx ry h
  obtain ⟨a, b, ks, ls, rfl, rfl, ea, eb, hlen, hp, q⟩ := h
  obtain rfl : v = Value.ref a := rx
  obtain rfl : u = Value.ref b := ry
  obtain ⟨_, ya, va, ra, da⟩ := (show ObjOk X.prog X.w H s.heap a (.dK ks) from I.hok a _ ea)
  obtain ⟨_, yb, vb, rb, db⟩ := (show ObjOk X.prog X.w H s.heap b (.dK ls) from I.hok b _ eb)
  have hl : va.length = vb.length := by rw [← ra.length, ← rb.length]; exact hlen
  exact PySem.W.keq_eq (knd := mixKind X.prog X.w) (r := true) ya yb da db (by omega) (fun _ => hits_data I (A := X.A) (by show X.A.units + 1 + 64 < cLine; omega) rb ra hp) (fin_bl I q (by simp [hl]))
theorem op_ne_dictD (hu : X.A.units + 65 < cLine) : OpR X (compareOp .NotEq) (rDV X.K false) := by
  intro pins s σ H x y v u Q I rx ry h
  obtain ⟨a, b, ks, ls, rfl, rfl, ea, eb, hlen, hp, q⟩ := h
  obtain rfl : v = Value.ref a := rx
  obtain rfl : u = Value.ref b := ry
  obtain ⟨_, ya, va, ra, da⟩ := (show ObjOk X.prog X.w H s.heap a (.dK ks) from I.hok a _ ea)
  obtain ⟨_, yb, vb, rb, db⟩ := (show ObjOk X.prog X.w H s.heap b (.dK ls) from I.hok b _ eb)
  have hl : va.length = vb.length := by rw [← ra.length, ← rb.length]; exact hlen
  exact PySem.W.keq_ne (knd := mixKind X.prog X.w) (r := true) ya yb da db (by omega) (fun _ => hits_data I (A := X.A) (by show X.A.units + 1 + 64 < cLine; omega) rb ra hp) (fin_bl I q (by simp [hl]))
end
section
variable {Γ : Gm} {Ω : Om} {K : PySem.W.Frag} {ta tb : TE} {p1 p2 : Addr} {j1 j2 : Nat}
theorem ev_DV {β : Type} {f : β → As} {dd : β → PyData} {k : Nat} {r : Bool} (hk : Kd K f dd k) {l1 l2 : List (Str × β)} (h1 : Ev Γ Ω ta (Rf p1)) (m1 : Ω[j1]? = some (p1, oS (l1.map fun x => (x.1, f x.2)))) (h2 : Ev Γ Ω tb (Rf p2)) (m2 : Ω[j2]? = some (p2, oS (l2.map fun x => (x.1, f x.2)))) (hl : l1.length = l2.length) (hh : ∀ x ∈ l1, getS x.1 l2 = some x.2) (l : k ≤ 64 := by decide) : Ev Γ Ω (tOp (rDV K r) ta tb) (B r) := fun Z F H σ c Q q =>
  h1 Z F H σ c _ fun v F1 H1 c1 s1 rv => h2 Z F1 H1 σ c1 _ fun w F2 H2 c2 s2 rw' => by
    cases rv
    cases rw'
    obtain ⟨_, o, e1, k1, eo1, a1⟩ := c2.own _ (List.mem_of_getElem? m1)
    obtain ⟨_, o', e2, k2, eo2, a2⟩ := c2.own _ (List.mem_of_getElem? m2)
    subst eo1 eo2
    refine ⟨p1, p2, _, _, rfl, rfl, e1, e2, by rw [a1.length, a2.length, List.length_map, List.length_map, hl], fun y hy => ?_, q _ F2 H2 c2 (s1.trans s2) rfl⟩
    obtain ⟨i, hi⟩ := List.getElem?_of_mem hy
    have hlt : i < l1.length := by
      have z := (List.getElem?_eq_some_iff.mp hi).1
      rw [a1.length, List.length_map] at z; exact z
    obtain ⟨v', hv', hp'⟩ := a1.at (i := i) (x := ((l1[i]).1, f (l1[i]).2)) (by rw [List.getElem?_map, List.getElem?_eq_getElem hlt]; rfl)
    have ey : y = (Sum.inr (l1[i]).1, v') := by rw [hi] at hv'; exact Option.some.inj hv'
    subst ey
    have hg : getS (l1[i]).1 (l2.map fun x => (x.1, f x.2)) = some (f (l1[i]).2) := by
      have z := getS_map (g := f) (l1[i]).1 l2
      rw [hh _ (List.getElem_mem hlt)] at z
      exact z
    obtain ⟨u, hu, hpu⟩ := (a2.get (k := (l1[i]).1)).1 _ hg
    exact ⟨u, dd (l1[i]).2, hu, (hk.is _).dp F2 H2 _ c2.sub hp', (hk.is _).dp F2 H2 _ c2.sub hpu, (hk.gd _).shaped l, (hk.eq _ _).mpr rfl⟩
end
end Y

namespace Y
open PySem L2 PySem.Spec
open PyProof.Rows (envOfC)
/-! ## dicts whose keys are pairs of texts -/
def tk (k : Str × Str) : List Key := [.inr k.1, .inr k.2]
theorem tk_inj {i k : Str × Str} (h : tk i = tk k) : i = k := by
  obtain ⟨a, b⟩ := i
  obtain ⟨x, y⟩ := k
  unfold tk at h
  simp at h
  obtain ⟨h1, h2⟩ := h
  rw [h1, h2]
def tkV (k : Str × Str) : List V := [.str k.1, .str k.2]
theorem tk_map {k : Str × Str} : (tk k).map kV = tkV k := rfl
def AllT (F : Hp) : List ((Str × Str) × As) → List (List Key × V) → Prop
  | [], [] => True
  | (k, R) :: l, (q, v) :: kvs => q = tk k ∧ R.p F v ∧ AllT F l kvs
  | _, _ => False
theorem AllT.mono {F F' : Hp} (s : Same F F') : ∀ {l : List ((Str × Str) × As)} {kvs : List (List Key × V)}, AllT F l kvs → AllT F' l kvs
  | [], [], _ => trivial
  | (k, R) :: l, (q, v) :: kvs, h => ⟨h.1, R.mono s h.2.1, AllT.mono s h.2.2⟩
  | [], _ :: _, h => h.elim
  | _ :: _, [], h => h.elim
theorem AllT.length {F : Hp} : ∀ {l : List ((Str × Str) × As)} {kvs : List (List Key × V)}, AllT F l kvs → kvs.length = l.length
  | [], [], _ => rfl
  | (k, R) :: l, (q, v) :: kvs, h => congrArg (· + 1) (AllT.length h.2.2)
  | [], _ :: _, h => h.elim
  | _ :: _, [], h => h.elim
/-- what stands at k -/
def getT {β : Type} (k : Str × Str) : List ((Str × Str) × β) → Option β
  | [] => none
  | (i, y) :: l => if i = k then some y else getT k l
def hasT {β : Type} (k : Str × Str) : List ((Str × Str) × β) → Bool
  | [] => false
  | (i, _) :: l => decide (i = k) || hasT k l
def putT {β : Type} (l : List ((Str × Str) × β)) (k : Str × Str) (y : β) : List ((Str × Str) × β) := if hasT k l then l.map fun p => if p.1 = k then (p.1, y) else p else l ++ [(k, y)]
theorem getT_map {β γ : Type} {g : β → γ} (k : Str × Str) : ∀ l : List ((Str × Str) × β), getT k (l.map fun p => (p.1, g p.2)) = (getT k l).map g
  | [] => rfl
  | (i, y) :: l => by
    show (if i = k then some (g y) else getT k (l.map fun p => (p.1, g p.2))) = (if i = k then some y else getT k l).map g
    split
    · rfl
    · exact getT_map k l
theorem hasT_map {β γ : Type} {g : β → γ} (k : Str × Str) : ∀ l : List ((Str × Str) × β), hasT k (l.map fun p => (p.1, g p.2)) = hasT k l
  | [] => rfl
  | (i, y) :: l => by
    show (decide (i = k) || hasT k (l.map fun p => (p.1, g p.2))) = (decide (i = k) || hasT k l)
    rw [hasT_map k l]
theorem putT_map {β γ : Type} {g : β → γ} {k : Str × Str} {y : β} {l : List ((Str × Str) × β)} : putT (l.map fun p => (p.1, g p.2)) k (g y) = (putT l k y).map fun p => (p.1, g p.2) := by
  unfold putT
  rw [hasT_map]
  split
  · rw [List.map_map, List.map_map]
    refine List.map_congr_left fun p _ => ?_
    simp only [Function.comp]
    split <;> rfl
  · rw [List.map_append]; rfl
theorem hasT_get {β : Type} (k : Str × Str) : ∀ l : List ((Str × Str) × β), hasT k l = (getT k l).isSome
  | [] => rfl
  | (i, y) :: l => by
    show (decide (i = k) || hasT k l) = (if i = k then some y else getT k l).isSome
    by_cases h : i = k
    · rw [if_pos h, decide_eq_true h]; rfl
    · rw [if_neg h, decide_eq_false h, hasT_get k l]; rfl
theorem getT_put {β : Type} {k j : Str × Str} {y : β} : ∀ {l : List ((Str × Str) × β)}, getT j (putT l k y) = if j = k then some y else getT j l := fun {l} => by
  have h1 : ∀ l : List ((Str × Str) × β), getT j (l.map fun p => if p.1 = k then (p.1, y) else p) = if j = k then (getT j l).map (fun _ => y) else getT j l := fun l => by
    induction l with
    | nil => simp [getT]
    | cons p l ih =>
      obtain ⟨i, z⟩ := p
      rw [List.map_cons]
      by_cases h : i = k
      · rw [if_pos h]
        show (if i = j then some y else getT j _) = _
        rw [ih]
        by_cases hj : j = k
        · rw [if_pos hj, if_pos hj, if_pos (h.trans hj.symm)]
          show some y = (if i = j then some z else getT j l).map _
          rw [if_pos (h.trans hj.symm)]; rfl
        · have hij : ¬ i = j := fun e => hj (e.symm.trans h)
          rw [if_neg hj, if_neg hj, if_neg hij]
          show getT j l = if i = j then some z else getT j l
          rw [if_neg hij]
      · rw [if_neg h]
        show (if i = j then some z else getT j _) = _
        rw [ih]
        by_cases hj : j = k
        · have hij : ¬ i = j := fun e => h (e.trans hj)
          rw [if_neg hij, if_pos hj, if_pos hj]
          show _ = (if i = j then some z else getT j l).map _
          rw [if_neg hij]
        · rw [if_neg hj, if_neg hj]
          show _ = if i = j then some z else getT j l
          rfl
  have h2 : ∀ l : List ((Str × Str) × β), getT j (l ++ [(k, y)]) = (getT j l).or (if k = j then some y else none) := fun l => by
    induction l with
    | nil => rfl
    | cons p l ih =>
      obtain ⟨i, z⟩ := p
      show (if i = j then some z else getT j (l ++ [(k, y)])) = (if i = j then some z else getT j l).or _
      split
      · rfl
      · exact ih
  unfold putT
  split
  · rename_i h
    rw [h1]
    split
    · rename_i e
      subst e
      rw [hasT_get] at h
      cases z : getT j l with
      | none => rw [z] at h; cases h
      | some x => rfl
    · rfl
  · rename_i h
    rw [h2]
    by_cases e : j = k
    · subst e
      have hn : getT j l = none := by
        rw [hasT_get] at h
        cases z : getT j l with
        | none => rfl
        | some x => rw [z] at h; exact absurd rfl h
      rw [hn]; simp
    · rw [if_neg (fun z => e z.symm), if_neg e, Option.or_none]
theorem AllT.get {F : Hp} {k : Str × Str} : ∀ {l : List ((Str × Str) × As)} {kvs : List (List Key × V)}, AllT F l kvs → (∀ R, getT k l = some R → ∃ v, valV kvs (tk k) = some v ∧ R.p F v) ∧ (getT k l = none → valV kvs (tk k) = none)
  | [], [], _ => ⟨fun R h => (by cases h), fun _ => rfl⟩
  | (i, R0) :: l, (q, v) :: kvs, ⟨h1, h2, h3⟩ => by
    obtain ⟨g1, g2⟩ := AllT.get (k := k) h3
    subst h1
    by_cases e : i = k
    · subst e
      rw [valV_pos rfl]
      have e2 : getT i ((i, R0) :: l) = some R0 := if_pos rfl
      rw [e2]
      exact ⟨fun R h => by cases h; exact ⟨v, rfl, h2⟩, fun h => by cases h⟩
    · rw [valV_neg (fun z => e (tk_inj z))]
      have e2 : getT k ((i, R0) :: l) = getT k l := if_neg e
      rw [e2]
      exact ⟨g1, g2⟩
  | [], _ :: _, h => h.elim
  | _ :: _, [], h => h.elim
theorem AllT.has {F : Hp} {k : Str × Str} : ∀ {l : List ((Str × Str) × As)} {kvs : List (List Key × V)}, AllT F l kvs → (kvs.any fun kv => decide (kv.1 = tk k)) = hasT k l
  | [], [], _ => rfl
  | (i, R0) :: l, (q, v) :: kvs, ⟨h1, h2, h3⟩ => by
    subst h1
    show (decide (tk i = tk k) || kvs.any _) = (decide (i = k) || hasT k l)
    rw [AllT.has h3]
    congr 1
    exact decide_eq_decide.mpr ⟨fun z => tk_inj z, fun z => by rw [z]⟩
  | [], _ :: _, h => h.elim
  | _ :: _, [], h => h.elim
theorem AllT.put {F : Hp} {k : Str × Str} {R : As} {v : V} (q : R.p F v) {l : List ((Str × Str) × As)} {kvs : List (List Key × V)} (h : AllT F l kvs) : AllT F (putT l k R) (putK kvs (tk k) v) := by
  have h1 : ∀ {l : List ((Str × Str) × As)} {kvs : List (List Key × V)}, AllT F l kvs → AllT F (l.map fun p => if p.1 = k then (p.1, R) else p) (kvs.map fun kv => if kv.1 = tk k then (kv.1, v) else kv) := fun {l} => by
    induction l with
    | nil =>
      intro kvs h
      cases kvs with
      | nil => exact trivial
      | cons _ _ => exact h.elim
    | cons p l ih =>
      intro kvs h
      cases kvs with
      | nil => exact h.elim
      | cons kv kvs =>
        obtain ⟨i, R0⟩ := p
        obtain ⟨a, w⟩ := kv
        obtain ⟨a1, a2, a3⟩ := h
        subst a1
        rw [List.map_cons, List.map_cons]
        by_cases e : i = k
        · rw [if_pos e, if_pos (by rw [e])]
          exact ⟨rfl, q, ih a3⟩
        · rw [if_neg e, if_neg (fun z => e (tk_inj z))]
          exact ⟨rfl, a2, ih a3⟩
  have h2 : ∀ {l : List ((Str × Str) × As)} {kvs : List (List Key × V)}, AllT F l kvs → AllT F (l ++ [(k, R)]) (kvs ++ [(tk k, v)]) := fun {l} => by
    induction l with
    | nil =>
      intro kvs h
      cases kvs with
      | nil => exact ⟨rfl, q, trivial⟩
      | cons _ _ => exact h.elim
    | cons p l ih =>
      intro kvs h
      cases kvs with
      | nil => exact h.elim
      | cons kv kvs => exact ⟨h.1, h.2.1, ih h.2.2⟩
  unfold putT putK
  rw [h.has]
  split
  · exact h1 h
  · exact h2 h
theorem len_putT {β : Type} (l : List ((Str × Str) × β)) (k : Str × Str) (y : β) : (putT l k y).length ≤ l.length + 1 := by
  unfold putT
  split
  · rw [List.length_map]; omega
  · rw [List.length_append]; exact Nat.le_refl _
theorem AllT.at {F : Hp} : ∀ {l : List ((Str × Str) × As)} {kvs : List (List Key × V)} {i : Nat} {x : (Str × Str) × As}, AllT F l kvs → l[i]? = some x → ∃ v, kvs[i]? = some (tk x.1, v) ∧ x.2.p F v
  | [], [], i, x, _, e => by simp at e
  | (a, R) :: l, (q, v) :: kvs, 0, x, ⟨h1, h2, h3⟩, e => by
    have e' : (a, R) = x := Option.some.inj e
    subst e'
    subst h1
    exact ⟨v, rfl, h2⟩
  | (a, R) :: l, (q, v) :: kvs, i + 1, x, ⟨h1, h2, h3⟩, e => AllT.at (i := i) h3 (by simpa using e)
  | [], _ :: _, _, _, h, _ => h.elim
  | _ :: _, [], _, _, h, _ => h.elim
/-! ### the walk over the pairs -/
def ItiT (d : Addr) (o : Obj) (kvs : List (List Key × V)) : It :=
  ⟨fun i H => H d = some (.frz o (.dT kvs)) ∧ i < kvs.length, fun i H x H' => ∃ T k v q, kvs[i]? = some (k, v) ∧ H q = some (.tup (k.map kV)) ∧ x = .ref T ∧ H T = none ∧ H' = upd H T (.tup [.ref q, v]), fun i H => H d = some (.frz o (.dT kvs)) ∧ kvs.length ≤ i⟩
section
variable {X : Cx} {pins : List (Addr × Obj)} {σ : L2.St} {H : Hp} {s : Shared} {d : Addr} {o : Obj}
theorem frzT2 {kvs : List (List Key × V)} (I : L2.Inv X pins σ H s) (h : H d = some (.frz o (.dT kvs))) :
    (d == sysModules) = false ∧ s.heap.get? d = some o ∧ o.ExactDict ∧ ∃ (es : Array DictEntry) (ep : Nat), o.data = .dict es ep ∧ es.size = kvs.length ∧
      ∀ (i : Nat) (k : List Key) (v : V), kvs[i]? = some (k, v) → ∃ (en : DictEntry) (q : Addr), es[i]? = some en ∧ en.key = .ref q ∧ H q = some (.tup (k.map kV)) ∧ RelV v en.val := by
  obtain ⟨hd, z, hs, xs, pr, o', es, ep, ho, hx, hdt, he, _⟩ := I.hok d _ h
  rw [hd] at ho
  cases ho
  refine ⟨hs, hd, hx, es, ep, hdt, ?_, fun i k v e => ?_⟩
  · have l1 : es.size = xs.length := size_of_entries he
    have l2 : kvs.length = xs.length := Paired.length pr
    omega
  · obtain ⟨b, hb, e1, e2, e3⟩ := L2.paired_get pr e
    have q := entry_at he i
    rw [hb] at q
    exact ⟨_, b.2.1, q, rfl, e2, e3⟩
end
theorem turn_itemsT {P : Program} {w : World} {K : PySem.W.Frag} {d : Addr} {o : Obj} {es : Array DictEntry} {ep : Nat} {kvs : List (List Key × V)} {elts : List Expr} {kk : Nat} {tpos : Pos} (it : Addr) (hod : o.data = .dict es ep) :
    L2.Turn P w K (.Tuple elts kk tpos) (ItiT d o kvs) [it] it (fun i h => ∃ ok ov, IsItemIter h it d i kvs.length ep ok ov) where
  mem := by simp
  obj := fun i h st b hb => by
    have e : b = it := by simpa using hb
    subst e
    obtain ⟨ok, ov, e⟩ := st
    exact ⟨_, e, fun v z => nomatch z⟩
  keep := fun i h h' st k => let ⟨ok, ov, e⟩ := st; ⟨ok, ov, k it (by simp) _ e⟩
  item := by
    intro X hP hw hK hc i pins s σ H E I hf st hg
    subst hP hw hK
    obtain ⟨hd, hi⟩ := hg
    obtain ⟨hs, hgd, hx, es', ep', hdt, hsz, hen⟩ := frzT2 I hd
    obtain ⟨e1, e2⟩ := L2.dict_ep hod hdt
    obtain rfl : es = es' := e1.symm
    obtain rfl : ep = ep' := e2.symm
    obtain ⟨⟨k, v⟩, hkv⟩ : ∃ p, kvs[i]? = some p := ⟨kvs[i], List.getElem?_eq_getElem hi⟩
    obtain ⟨en, q, h1, h2, h3, h4⟩ := hen i k v hkv
    obtain ⟨ok, ov, he⟩ := st
    rw [← hsz] at he
    have hlt : it < s.heap.objs.size := Heap.lt_size he
    have hi2 : i < es.size := by omega
    have hek : es[i] = en := by
      rw [Array.getElem?_eq_getElem hi2] at h1
      exact Option.some.inj h1
    refine DT.nextI he ⟨o, hgd, hx, hdt⟩ hi2 fun h' ho hT hz hk => ?_
    refine ⟨_, rfl, wpAny_letOwnedTupleGo_items (s := { s with heap := h' }) ho fun h'' he' sb => ?_⟩
    have hT2 : h''.get? s.heap.objs.size = some { cls := .type "tuple", data := .seq #[es[i].key, es[i].val] } := (sb.2 _ (Nat.ne_of_gt hlt)).trans hT
    rw [hek, h2] at hT2
    have new : ObjOk X.prog X.w (upd H s.heap.objs.size (.tup [.ref q, v])) h'' s.heap.objs.size (.tup [.ref q, v]) :=
      ⟨by show 2 ≤ sizeLine; decide, [.ref q, en.val], .cons rfl (.cons h4 .nil), ⟨_, hT2, rfl, _, rfl⟩⟩
    have I1 : L2.Inv X pins σ (upd H s.heap.objs.size (.tup [.ref q, v])) { s with heap := h'' } :=
      I.turnedNew (t' := s.toks) (ch := [it]) (fun b ob hb e => (sb.2 b (by simpa using hb)).trans (hk b ob (by simpa using hb) e)) hf (Nat.le_refl _) new
    refine ⟨.ref s.heap.objs.size, _, I1, rfl, ⟨_, k, v, q, hkv, h3, rfl, I.hok.fresh (Nat.le_refl _), rfl⟩, ⟨es[i].key, es[i].val, ?_⟩, fun b hb => ?_⟩
    · rw [← hsz]; exact he'
    · have e : b = it := by simpa using hb
      rw [e, upd_ne (Nat.ne_of_lt hlt)]
      exact (hf it (by simp)).1
  done := by
    intro X hP hw hK hc i pins s σ H E I hf st hg
    subst hP hw hK
    obtain ⟨hd, hi⟩ := hg
    obtain ⟨f0, f1, f2, f3, f4, f5⟩ := hf it (by simp)
    obtain ⟨hs, hgd, hx, es', ep', hdt, hsz, hen⟩ := frzT2 I hd
    obtain ⟨e1, e2⟩ := L2.dict_ep hod hdt
    obtain rfl : es = es' := e1.symm
    obtain rfl : ep = ep' := e2.symm
    obtain ⟨ok, ov, he⟩ := st
    rw [← hsz] at he
    exact DT.endI (I.ok.hd hc) he ⟨o, hgd, hx, hdt⟩ (by omega) fun h' eb => ⟨rfl, I.turned (t' := s.toks) (fun b ob hb e => eb b ob hb e) f0 f1 f3 f4 f5⟩
  self := fun A i s Q E st h => let ⟨_, _, e⟩ := st; PySem.W.kcp_self e h
def iItemsT (td : TE) : TI := fun σ H R => td σ H fun x H1 => ∃ d o kvs, x = .ref d ∧ H1 d = some (.frz o (.dT kvs)) ∧ R (ItiT d o kvs) H1
theorem pi_itemsT {X : Cx} {td : TE} {e : Expr} {apos cpos : Pos} {elts : List Expr} {kk : Nat} {tpos : Pos} (he : L2.PE X e td) (hbase : attributeBase e "items" X.env (eval e X.env) = eval e X.env := by rfl) (hline : (apos.endLine == cpos.line) = true := by rfl) :
    L2.PI X (.Tuple elts kk tpos) (.Call (.Attribute e "items" apos) [] [] cpos) (iItemsT td) := by
  refine ⟨fun pins s σ H R I h => ?_⟩
  refine wpAny_Call_method (T := "dict") (id := "dict.items") hbase rfl hline F.plainAttrs_dict F.slot_dict_items F.type_dict_items (thn (he.run pins s σ H _ I h) fun u s1 ⟨x, H1, I1, rx, d, o, kvs, ex, hd, q⟩ => ?_)
  subst ex
  obtain rfl : u = Value.ref d := rx
  obtain ⟨hs, hgd, hx, es, ep, hdt, hsz, hen⟩ := frzT2 I1 hd
  have raw : DT.Raw s1.heap d es ep := ⟨o, hgd, hx, hdt⟩
  refine ⟨raw.typeIs, fun a e => (by cases e; exact ⟨o, hgd, hx.2.1⟩), ?_⟩
  have I2 : L2.Inv X pins σ H1 { s1 with heap := s1.heap.push { cls := .type "dict_items", data := .fields #[.ref d] } } := I1.kept (t' := s1.toks) fun b ob q => Heap.get?_push_of_some _ q
  have fin : wpAny (model X.prog X.w) X.A (pyIter (.ref s1.heap.objs.size)) (L2.PIE X pins σ (.Tuple elts kk tpos) R) X.xe { s1 with heap := s1.heap.push { cls := .type "dict_items", data := .fields #[.ref d] } } := by
    refine DT.iterI (d := d) (es := es) (ep := ep) ⟨_, Heap.get?_push_size _ rfl, rfl, rfl⟩ (raw.push _) (L2.pi_one (tk := s1.toks) I2 _ (turn_itemsT _ hdt) ⟨.none, .none, ?_⟩ q)
    rw [← hsz]
    exact Heap.get?_push_size _ rfl
  show wpAny _ _ (callWith cpos (.builtin "dict.items") [.ref d] [] []) _ X.xe s1
  exact method_meetsIn F.slot_dict_items F.entry_dict_items rfl (PySem.evalArgs_none ⟨rfl, raw.typeIs, F.args_dict_items_1 _, _, DT.meetsItems (es := es) (ep := ep) hs, ⟨raw, fin⟩⟩)
/-! ### what is owned: such a dict, open and locked; a key that an entry holds -/
def oT (l : List ((Str × Str) × As)) : OA := ⟨fun F o => ∃ kvs, o = .dT kvs ∧ AllT F l kvs, fun s h => by
  obtain ⟨kvs, e, q⟩ := h; exact ⟨kvs, e, q.mono s⟩⟩
def oTk (od : Obj) (kvs : List (List Key × V)) (l : List ((Str × Str) × As)) : OA := ⟨fun F o => o = .frz od (.dT kvs) ∧ AllT F l kvs, fun s h => ⟨h.1, h.2.mono s⟩⟩
structure RdT (A : OA) (l : List ((Str × Str) × As)) : Prop where
  rd : ∀ F o, A.p F o → ∃ kvs, (o = .dT kvs ∨ ∃ od, o = .frz od (.dT kvs)) ∧ AllT F l kvs
theorem rdT {l : List ((Str × Str) × As)} : RdT (oT l) l := ⟨fun F o ⟨kvs, e, h⟩ => ⟨kvs, .inl e, h⟩⟩
theorem rdTk {l : List ((Str × Str) × As)} {od : Obj} {kvs : List (List Key × V)} : RdT (oTk od kvs l) l := ⟨fun F o ⟨e, h⟩ => ⟨kvs, .inr ⟨od, e⟩, h⟩⟩
def oKt (k : Str × Str) : OA := ⟨fun _ o => o = .tup (tkV k), fun _ h => h⟩
/-- a tuple of two texts that stands frozen -/
def Kt (k : Str × Str) : As := ⟨fun F v => ∃ q, v = .ref q ∧ F q = some (.tup (tkV k)), fun s h => by
  obtain ⟨q, e, h⟩ := h; exact ⟨q, e, s _ _ h⟩⟩
section
variable {Z : Bs} {F H F' H' : Hp} {σ σ' : L2.St} {Γ Γ' : Gm} {Ω Ω' Ωr : Om} {K : PySem.W.Frag} {te ta tb tl tk' tx : TE} {tt : TT} {R Rx Ry : As} {Rs Ss : List As} {n : L2.St → Hp → Prop} {r : VK} {bk ct : L2.St → Hp → Prop} {p d : Addr} {l : List ((Str × Str) × As)} {f m : Str} {j : Nat} {E : XK} {A A2 : OA} {k : Str × Str}
/-- a reading that gives a tuple of two texts -/
def KeyT (Γ : Gm) (Ω : Om) (te : TE) (k : Str × Str) : Prop := ∀ (Z : Bs) (F H : Hp) (σ : L2.St), Ctx Z F H σ Γ Ω → ∀ Q : VK, (∀ q F' H', Ctx Z F' H' σ Γ Ω → Ext [] F H F' H' → (∀ F2 H2, Ctx Z F2 H2 σ Γ Ω → Same F' F2 → H2 q = some (.tup (tkV k))) → Q (.ref q) H') → te σ H Q
theorem key_kt (h : Ev Γ Ω te (Kt k)) : KeyT Γ Ω te k := fun Z F H σ c Q q => h Z F H σ c Q fun v F1 H1 c1 s1 rv => by
  obtain ⟨b, e, hb⟩ := rv
  subst e
  exact q b F1 H1 c1 s1 fun F2 H2 c2 s2 => c2.sub _ _ (s2 _ _ hb)
theorem key_own (h : Ev Γ Ω te (Rf p)) (hm : (p, oKt k) ∈ Ω) : KeyT Γ Ω te k := fun Z F H σ c Q q => h Z F H σ c Q fun v F1 H1 c1 s1 rv => by
  cases rv
  refine q p F1 H1 c1 s1 fun F2 H2 c2 s2 => ?_
  obtain ⟨_, o, h2, ho⟩ := c2.own _ hm
  have ho : o = .tup (tkV k) := ho
  rw [← ho]; exact h2
/-- (a, b) -/
theorem ev_ktup (ha : Ev Γ Ω ta (S k.1)) (hb : Ev Γ Ω tb (S k.2)) : Ev Γ Ω (tTup (tCons ta (tCons tb tNil))) (Kt k) := fun Z F H σ c Q q =>
  (ea_cons ha (ea_cons hb ea_nil)) Z F H σ c _ fun vs F1 H1 c1 s1 rs => ⟨by rw [rs.length]; exact Nat.le_of_lt (small1000 (show 2 ≤ 1000 by decide)), fun p hp => by
    obtain ⟨e, s⟩ := Ext.new (o := .tup vs) c1.sub hp
    have ev : vs = tkV k := by
      match vs, rs with
      | [x, y], ⟨e1, e2, _⟩ => cases e1; cases e2; rfl
    subst ev
    exact q (.ref p) _ _ (c1.step e s) (s1.trans e) ⟨p, rfl, upd_same⟩⟩
/-- such a tuple as any tuple -/
theorem ev_ktp (h : Ev Γ Ω te (Kt k)) : Ev Γ Ω te (Tp K [S k.1, S k.2]) := fun Z F H σ c Q q => h Z F H σ c Q fun v F1 H1 c1 s1 rv => by
  obtain ⟨b, e, hb⟩ := rv
  exact q v F1 H1 c1 s1 ⟨b, _, e, SqT.of hb, rfl, rfl, trivial⟩
theorem ev_kix0 (h : KeyT Γ Ω ta k) (hb : Ev Γ Ω tb (I 0)) : Ev Γ Ω (tOp (rIxT K) ta tb) (S k.1) := fun Z F H σ c Q q =>
  h Z F H σ c _ fun b F1 H1 c1 s1 hk => hb Z F1 H1 σ c1 _ fun y F2 H2 c2 s2 ry => by
    cases ry
    exact ⟨b, tkV k, 0, .str k.1, rfl, rfl, SqT.of (hk F2 H2 c2 s2.fe), rfl, q _ F2 H2 c2 (s1.trans s2) rfl⟩
theorem ev_kix1 (h : KeyT Γ Ω ta k) (hb : Ev Γ Ω tb (I 1)) : Ev Γ Ω (tOp (rIxT K) ta tb) (S k.2) := fun Z F H σ c Q q =>
  h Z F H σ c _ fun b F1 H1 c1 s1 hk => hb Z F1 H1 σ c1 _ fun y F2 H2 c2 s2 ry => by
    cases ry
    exact ⟨b, tkV k, 1, .str k.2, rfl, rfl, SqT.of (hk F2 H2 c2 s2.fe), rfl, q _ F2 H2 c2 (s1.trans s2) rfl⟩
theorem ev_kin {x : Str} (neg : Bool) (ha : Ev Γ Ω ta (S x)) (h : KeyT Γ Ω tb k) : Ev Γ Ω (tOp (rIn K neg) ta tb) (B (if neg then !decide (x ∈ [k.1, k.2]) else decide (x ∈ [k.1, k.2]))) := fun Z F H σ c Q q =>
  ha Z F H σ c _ fun v F1 H1 c1 s1 rv => h Z F1 H1 σ c1 _ fun b F2 H2 c2 s2 hk => by
    cases rv
    refine ⟨b, [k.1, k.2].map V.str, rfl, .inr (SqT.of (hk F2 H2 c2 (Same.refl _))), rfl, flat_strs, ?_⟩
    rw [in_strs]
    cases neg <;> exact q _ F2 H2 c2 (s1.trans s2) rfl
theorem eo_tnew : EvNw Γ Ω tDNewT (oT []) := fun Z F H σ c Q q p hp => q p F _ (c.grow (A := oT []) hp ⟨[], rfl, trivial⟩) (Ext.newH hp) hp
/-- d.get((a, b), e) -/
theorem ev_tget2 {S0 : As} (ha : Ev Γ Ω ta (Rf p)) (hm : Ω[j]? = some (p, A)) (hA : RdT A l) (hb : KeyT Γ Ω tb k) (hx : Ev Γ Ω tx Rx) (h1 : ∀ R, getT k l = some R → ∀ F v, R.p F v → S0.p F v) (h2 : getT k l = none → ∀ F v, Rx.p F v → S0.p F v) : Ev Γ Ω (tDGet2 ta tb tx) S0 := fun Z F H σ c Q q =>
  ha Z F H σ c _ fun a F1 H1 c1 s1 rv => by
    cases rv
    have look : ∀ {F2 H2 : Hp}, Ctx Z F2 H2 σ Γ Ω → ∃ kvs, Rd H2 p (.dT kvs) ∧ AllT F2 l kvs := fun {F2 H2} c2 => by
      obtain ⟨_, o, h2, ho⟩ := c2.own _ (List.mem_of_getElem? hm)
      obtain ⟨kvs, eo, hx⟩ := hA.rd _ _ ho
      refine ⟨kvs, ?_, hx⟩
      rcases eo with eo | ⟨od, eo⟩
      · exact .inl (by rw [h2, eo])
      · exact .inr ⟨od, by rw [h2, eo]⟩
    obtain ⟨kvs, g1, g2⟩ := look c1
    refine ⟨p, rfl, .inr ⟨kvs, g1⟩, hb Z F1 H1 σ c1 _ fun b F2 H2 c2 s2 hk => hx Z F2 H2 σ c2 _ fun x F3 H3 c3 s3 rx => ?_⟩
    obtain ⟨kvs, g1, g2⟩ := look c3
    refine ⟨valV kvs (tk k), .inr ⟨kvs, tk k, b, g1, rfl, hk F3 H3 c3 s3.fe, rfl⟩, q _ F3 H3 c3 (s1.trans (s2.trans s3)) ?_⟩
    cases e : getT k l with
    | none => rw [(g2.get (k := k)).2 e]; exact h2 e _ _ rx
    | some R =>
      obtain ⟨v, e3, e4⟩ := (g2.get (k := k)).1 R e
      rw [e3]; exact h1 R e _ _ e4
/-- d[(a, b)] = e -/
theorem st_tput (c : Ctx Z F H σ Γ Ω) (e : Ev Γ Ω te R) (ha : Ev Γ Ω ta (Rf p)) (hm : Ω[j]? = some (p, oT l)) (hb : KeyT Γ Ω tb k) (hl : l.length ≤ 10000000) (kk : ∀ F' H', Ctx Z F' H' σ Γ (Ω.set j (p, oT (putT l k R))) → Same F F' → n σ H') (hw : Wr Z p) : sDPut ta tb te ⟨n, r, bk, ct⟩ σ H :=
  e Z F H σ c _ fun v F1 H1 c1 s1 rv => ha Z F1 H1 σ c1 _ fun x F2 H2 c2 s2 rx => hb Z F2 H2 σ c2 _ fun b F3 H3 c3 s3 hk => by
    cases rx
    obtain ⟨_, o, h2, kvs, eo, hx⟩ := c3.own _ (List.mem_of_getElem? hm)
    subst eo
    exact ⟨p, _, rfl, DPut.t (k := tk k) h2 (hk F3 H3 c3 (Same.refl _)) (by rw [hx.length]; exact Nat.lt_of_le_of_lt hl (by decide)), kk F3 _ (c3.chg hm ⟨_, rfl, hx.put (R.mono (s2.trans s3).fe rv)⟩ hw) (s1.trans (s2.trans s3)).fe⟩
/-- the lock -/
theorem Ctx.unlockT {od : Obj} {kvs : List (List Key × V)} (c : Ctx (swapZ Z d (.frz od (.dT kvs))) F H σ Γ Ω) (hk : LkOk Z d (.dT kvs)) (hm : Ω[j]? = some (d, oTk od kvs l)) : H d = some (.frz od (.dT kvs)) ∧ Ctx Z F (upd H d (.dT kvs)) σ Γ (Ω.set j (d, oT l)) := by
  obtain ⟨hf, o0, h0, e0, hx⟩ := c.own _ (List.mem_of_getElem? hm)
  dsimp only at h0
  refine ⟨by rw [h0, e0], c.back hk hm ⟨kvs, rfl, hx⟩⟩
theorem st_lockT {t : TS} (c : Ctx Z F H σ Γ Ω) (hm : Ω[j]? = some (d, oT l)) (kk : ∀ od kvs, LkOk Z d (.dT kvs) → Ctx (swapZ Z d (.frz od (.dT kvs))) F (upd H d (.frz od (.dT kvs))) σ Γ (Ω.set j (d, oTk od kvs l)) →
    t ⟨fun σ' H' => H' d = some (.frz od (.dT kvs)) ∧ n σ' (upd H' d (.dT kvs)), fun v H' => H' d = some (.frz od (.dT kvs)) ∧ r v (upd H' d (.dT kvs)), fun σ' H' => H' d = some (.frz od (.dT kvs)) ∧ bk σ' (upd H' d (.dT kvs)), fun σ' H' => H' d = some (.frz od (.dT kvs)) ∧ ct σ' (upd H' d (.dT kvs))⟩ σ (upd H d (.frz od (.dT kvs)))) : tLock t ⟨n, r, bk, ct⟩ σ H := by
  obtain ⟨hf, o0, h0, kvs, e0, hx⟩ := c.own _ (List.mem_of_getElem? hm)
  dsimp only at h0
  subst e0
  exact ⟨d, .dT kvs, h0, trivial, fun od => kk od kvs (c.lkOk h0) (c.swap hm ⟨rfl, hx⟩)⟩
/-- what stands for the key in a turn -/
def KeyAs (R : As) (Ωe : Om) (k : Str × Str) : Prop := ∀ (Γ : Gm) (Ω : Om) (te : TE), (∀ x ∈ Ωe, x ∈ Ω) → Ev Γ Ω te R → KeyT Γ Ω te k
/-- for k, v in d.items(), d locked -/
theorem st_forTI {ι : Type} {tb : TS} {od : Obj} {kvs : List (List Key × V)} {a b : Nat} (G : ι → Gm) (O : ι → Om) (P : Nat → ι → Prop) (i0 : ι) (c : Ctx Z F H σ (G i0) (O i0)) (e : Ev (G i0) (O i0) te (Rf d)) (hro : Z.ro = []) (hO : ∀ i, (d, oTk od kvs l) ∈ O i) (hnt : ∀ i, ∀ x ∈ O i, ∀ F ys, ¬ x.2.p F (.tup ys)) (p0 : P 0 i0)
    (body : ∀ k x i Z' Ωe R F H σ (N : L2.St → Hp → Prop), l[k]? = some x → P k i → KeyAs R Ωe x.1 → (∀ p ∈ (O i).map (·.1), Wr Z' p) → Ctx Z' F H σ (((G i).set a (some R)).set b (some x.2)) (O i ++ Ωe) → (∀ j F' H' σ', P (k + 1) j → Ctx Z' F' H' σ' (G j) (O j ++ Ωe) → N σ' H') → tb ⟨N, r, n, N⟩ σ H)
    (hd : ∀ i F H σ, P l.length i → Ctx Z F H σ (G i) (O i) → n σ H) : tFor (iItemsT te) (gTup K 2 (gCons (gName a) (gCons (gName b) gNil))) tb ⟨n, r, bk, ct⟩ σ H := by
  refine e Z F H σ c _ fun v F1 H1 c1 s1 rv => ?_
  cases rv
  have look : ∀ {Z' : Bs} {F2 H2 : Hp} {σ2 : L2.St} {Γ2 : Gm} {Ω2 : Om}, Ctx Z' F2 H2 σ2 Γ2 Ω2 → (d, oTk od kvs l) ∈ Ω2 → H2 d = some (.frz od (.dT kvs)) ∧ AllT F2 l kvs := fun {Z' F2 H2 σ2 Γ2 Ω2} c2 hm => by
    obtain ⟨_, o1, h1, e1, hx2⟩ := c2.own _ hm
    dsimp only at h1
    exact ⟨by rw [h1, e1], hx2⟩
  refine ⟨d, od, kvs, rfl, (look c1 (hO i0)).1, ?_⟩
  refine ⟨fun k m σ H => m = l.length - k ∧ k ≤ l.length ∧ ∃ i F, P k i ∧ Ctx (Z.pin F1) F H σ (G i) (O i), ⟨_, rfl, Nat.zero_le _, i0, F1, p0, c1.topin (Same.refl _)⟩, ?_⟩
  rintro k m σ H ⟨rfl, hkn, i, F, p, cc⟩
  obtain ⟨hh, hx⟩ := look cc (hO i)
  rcases Nat.lt_or_eq_of_le hkn with hk | hk
  · have hxk : l[k]? = some l[k] := List.getElem?_eq_getElem hk
    obtain ⟨w, hw1, hw2⟩ := hx.at hxk
    refine .inr ⟨⟨hh, (List.getElem?_eq_some_iff.mp hw1).1⟩, fun σ' H' => ∃ i F, P (k + 1) i ∧ Ctx (Z.pin F1) F H' σ' (G i) (O i), fun σ' H' p' => ⟨l.length - (k + 1), by omega, rfl, hk, p'⟩, fun v H3 hy => ?_⟩
    obtain ⟨T, k', v', q, z2, z3, z4, z5, z6⟩ := hy
    rw [hw1] at z2
    cases z2
    subst z4 z6
    obtain ⟨e3, s3⟩ := Ext.new (o := .tup [.ref q, w]) cc.sub z5
    have c3 := cc.step e3 s3
    have hq3 : (upd H T (.tup [.ref q, w])) q = some (.tup (tkV l[k].1)) := by
      rw [upd_ne (ne_of_none z3 z5)]; exact z3
    refine ⟨T, [.ref q, w], rfl, SqT.of upd_same, rfl, ?_⟩
    have hwr : ∀ p ∈ (O i).map (·.1), p ∈ Z.ft ∨ Z.H p = none := fun p hp => loc_new cc hro p hp
    -- the key is frozen, or it is not
    by_cases hf : (upd F T (.tup [.ref q, w])) q = none
    · have hqn : q ∉ (O i).map (·.1) := fun hq => by
        obtain ⟨x, hx, ex⟩ := List.mem_map.mp hq
        obtain ⟨_, o, h2, ho⟩ := c3.own x hx
        have : x.1 = q := ex
        rw [this, hq3] at h2
        cases h2
        exact hnt i x hx _ _ ho
      have cz : Ctx ⟨upd F T (.tup [.ref q, w]), upd H T (.tup [.ref q, w]), (O i).map (·.1), F1, [q]⟩ (upd F T (.tup [.ref q, w])) (upd H T (.tup [.ref q, w])) σ (G i) (O i ++ [(q, oKt l[k].1)]) := by
        refine ⟨c3.sat, c3.sub, fun x hx => ?_, ?_, fun x hx => ?_, Ext.refl _ _ _, c3.pin⟩
        · rcases List.mem_append.mp hx with z | z
          · exact c3.own x z
          · rw [List.mem_singleton.mp z]
            exact ⟨hf, _, hq3, rfl⟩
        · rw [List.map_append]
          refine List.nodup_append.mpr ⟨c3.nd, by simp, fun x hx y hy => ?_⟩
          have : y = q := by simpa using hy
          rw [this]
          exact fun z => hqn (by rw [← z]; exact hx)
        · rcases List.mem_append.mp hx with z | z
          · exact .inl (List.mem_map_of_mem z)
          · rw [List.mem_singleton.mp z]
            exact .inr (.inr (by simp))
      refine (gts_cons (R := Rf q) gt_name (gts_cons (R := l[k].2) gt_name gts_nil)) _ _ _ σ [.ref q, w] _ cz ⟨rfl, l[k].2.mono e3.fe hw2, trivial⟩ _ fun σ' c' _ => ?_
      refine body k l[k] i _ [(q, oKt l[k].1)] (Rf q) _ _ _ _ hxk p (fun Γ Ω te hs ht => key_own ht (hs _ (by simp))) (fun p hp => .inl hp) c' fun j F' H' σ'' pj cj => ⟨j, F', pj, ?_⟩
      have hnd : ∀ x ∈ O j, x.1 ≠ q := fun x hx z => by
        have nd := cj.nd
        rw [List.map_append, List.nodup_append] at nd
        exact nd.2.2 x.1 (List.mem_map_of_mem hx) q (by simp) z
      refine ⟨cj.sat, cj.sub, fun x hx => cj.own x (List.mem_append_left _ hx), nodup_sub cj.nd (List.sublist_append_left _ _), fun x hx => ?_, c3.ext.transL cj.ext fun x hx => hwr x hx, cj.pin⟩
      rcases cj.loc x (List.mem_append_left _ hx) with z | z | z
      · exact (hwr _ z).elim .inl fun y => .inr (.inl y)
      · exact .inr (.inl (c3.ext.dm _ z))
      · exact absurd (List.mem_singleton.mp z) (hnd x hx)
    · have hf2 : (upd F T (.tup [.ref q, w])) q = some (.tup (tkV l[k].1)) := by
        cases z : (upd F T (.tup [.ref q, w])) q with
        | none => exact absurd z hf
        | some o =>
          have := c3.sub _ _ z
          rw [hq3] at this
          exact this.symm ▸ rfl
      refine (gts_cons (R := Kt l[k].1) gt_name (gts_cons (R := l[k].2) gt_name gts_nil)) _ _ _ σ [.ref q, w] _ c3 ⟨⟨q, rfl, hf2⟩, l[k].2.mono e3.fe hw2, trivial⟩ _ fun σ' c' _ => ?_
      exact body k l[k] i (Z.pin F1) [] (Kt l[k].1) _ _ _ _ hxk p (fun Γ Ω te hs ht => key_kt ht) hwr (by rw [List.append_nil]; exact c') fun j F' H' σ'' pj cj => ⟨j, F', pj, by rw [List.append_nil] at cj; exact cj⟩
  · subst hk
    exact .inl ⟨⟨hh, Nat.le_of_eq hx.length⟩, hd i F H σ p (cc.unpin c1.pin)⟩
end
end Y

namespace Y
open PySem L2 PySem.Spec
open PyProof.Rows (envOfC)
/-! ## texts: times a number, at a place -/
def repS (z : Str) (n : Nat) : Str := ⟨(List.replicate n z.cps).foldl (· ++ ·) #[]⟩
theorem repS_len (z : Str) (n : Nat) : (repS z n).length = n * z.length := by
  have h : ∀ (n : Nat) (b : Array Nat), ((List.replicate n z.cps).foldl (· ++ ·) b).size = b.size + n * z.cps.size := fun n => by
    induction n with
    | zero => intro b; simp
    | succ n ih =>
      intro b
      rw [List.replicate_succ, List.foldl_cons, ih, Array.size_append, Nat.succ_mul]
      omega
  show ((List.replicate n z.cps).foldl (· ++ ·) #[]).size = n * z.cps.size
  rw [h]; simp
def rMulS : R2 := fun x y H Q => ∃ z k, x = .str z ∧ y = .int k ∧ 1 ≤ k ∧ k ≤ 1000 ∧ 1 ≤ z.length ∧ z.length ≤ 1000 ∧ Q (.str (repS z k.toNat)) H
theorem op_mulS {X : Cx} : OpR X (binaryOp .Mult) rMulS := by
  intro pins s σ H x y v u Q I rx ry h
  obtain ⟨z, k, rfl, rfl, h1, h2, h3, h4, q⟩ := h
  obtain ⟨t, rfl⟩ := rx
  obtain ⟨t', rfl⟩ := ry
  have hz : (z.length == 0) = false := by simp; omega
  refine P.mul_str (by simp; omega) (fun _ _ => ?_) (fun _ _ => ?_) ?_
  · have e : (1000 : Int) ≤ (2 ^ 63 - 1) / k := (Int.le_ediv_iff_mul_le (by omega)).mpr (by omega)
    omega
  · have : z.length * k.toNat ≤ 1000 * 1000 := Nat.mul_le_mul h4 (by omega)
    refine decide_eq_false ?_
    have e : sizeLine = sizeLine := rfl
    exact Nat.not_lt.mpr (Nat.le_trans this (by decide))
  · rw [if_neg (by omega), hz, Bool.or_false]
    by_cases e : k = 1
    · subst e
      rw [if_pos (show ((1 : Int) == 1) = true from rfl)]
      have e0 : repS z (1 : Int).toNat = z := by
        show (⟨(List.replicate 1 z.cps).foldl (· ++ ·) #[]⟩ : Str) = z
        simp
      rw [e0] at q
      exact ⟨.str z, H, I, ⟨_, rfl⟩, q⟩
    · rw [if_neg (by simpa using e)]
      have hl := repS_len z k.toNat
      have : k.toNat * z.length ≤ 1000 * 1000 := Nat.mul_le_mul (by omega) h4
      exact ⟨by show (repS z k.toNat).length ≤ sizeLine; rw [hl]; exact Nat.le_trans this (by decide), ⟨.str (repS z k.toNat), H, I.tok _, ⟨_, rfl⟩, q⟩⟩
section
variable {Z : Bs} {F H F' H' : Hp} {σ σ' : L2.St} {Γ Γ' : Gm} {Ω Ω' Ωr : Om} {K : PySem.W.Frag} {ta tb te : TE} {t : TA} {sp sp' : Sp} {Rs : List As} {p C C' dx : Addr} {m : Str} {fs : List (Str × As)} {j : Nat} {E : L2.St → XK}
theorem ev_mulS {z : Str} {k : Int} (ha : Ev Γ Ω ta (S z)) (hb : Ev Γ Ω tb (I k)) (h : 1 ≤ k ∧ k ≤ 1000 ∧ 1 ≤ z.length ∧ z.length ≤ 1000) : Ev Γ Ω (tOp rMulS ta tb) (S (repS z k.toNat)) := ev_op ha hb fun F H v w s e e' Q q => by
  cases e
  cases e'
  exact ⟨z, k, rfl, rfl, h.1, h.2.1, h.2.2.1, h.2.2.2, q _ F H (Ext.refl _ _ _) s rfl⟩
theorem ev_ixS {z : Str} {i : Int} {c : Nat} (ha : Ev Γ Ω ta (S z)) (hb : Ev Γ Ω tb (I i)) (h : z.length ≤ sizeLine ∧ atI z.cps.toList i = some c) : Ev Γ Ω (tOp rIxS ta tb) (S ⟨#[c]⟩) := ev_op ha hb fun F H v w s e e' Q q => by
  cases e
  cases e'
  exact ⟨z, i, c, rfl, rfl, h.1, h.2, q _ F H (Ext.refl _ _ _) s rfl⟩
/-! ## isinstance of what is owned -/
theorem ev_isO {c : V} {cv : Value} {tc : TE} {b : Bool} (he : Ev Γ Ω te (Rf p)) (h2 : Ev Γ Ω tc (Cst c)) (hm : Ω[j]? = some (p, oI C dx fs)) (hc : ClsV c cv) (ic : C8.InsC K C) (hk : PySem.W.kitOne K (.ref C) cv = some b) : Ev Γ Ω (tCB (rIsi K) (tCons te (tCons tc tNil))) (B b) := fun Z F H σ c' Q q =>
  he Z F H σ c' _ fun x F1 H1 c1 s1 rx => h2 Z F1 H1 σ c1 _ fun y F2 H2 c2 s2 ry => by
    cases rx
    cases ry
    obtain ⟨_, o, h2, vs, eo, hf⟩ := c2.own _ (List.mem_of_getElem? hm)
    subst eo
    exact ⟨_, _, _, _, b, rfl, hc, .base (TyOf.ins h2 ic.cl ic.ha ic.hn ic.htk ic.hm), hk, q _ F2 H2 c2 (s1.trans s2) rfl⟩
/-! ## a method of a thing of one of two classes that hands out something new -/
theorem eo_meth2l {α : Type} {args : α → List As} {Oi : α → Om} {pre : α → Prop} {A : α → OA} (hsub : ∀ vs H Q E, CtRO args Oi pre A vs H Q E → sp vs H Q E) (a : α) (ho : Ev Γ Ω ta (Rf p)) (hm : Ω[j]? = some (p, oI C dx fs)) (hn : fs.lookup m = none) (h : EvA Γ Ω t Rs) (ha : args a = Rf p :: Rs) (hs : (Oi a).Sublist Ω) (hp : pre a) :
    EvNw Γ Ω (tMeth2 C C' m sp sp' E ta t) (A a) := fun Z F H σ c Q q =>
  ho Z F H σ c _ fun x F1 H1 c1 s1 rx => by
    cases rx
    obtain ⟨_, o, h2, vs, eo, hf⟩ := c1.own _ (List.mem_of_getElem? hm)
    subst eo
    refine .inl ⟨p, dx, vs, rfl, h2, hf.none hn, h Z F1 H1 σ c1 _ fun ws F2 H2 c2 s2 rs => hsub _ _ _ _ ?_⟩
    exact ⟨a, F2, c2.sub, by rw [ha]; exact ⟨rfl, rs⟩, c2.own.sub fun x hx => hs.subset hx, nodup_sub c2.nd hs, hp, fun q0 F3 H3 e3 s3 hq0 ow => q q0 F3 H3 (c2.add e3 s3 ow hq0) (s1.trans (s2.trans e3)) ((s1.trans s2).dm _ hq0)⟩
theorem eo_meth2r {α : Type} {args : α → List As} {Oi : α → Om} {pre : α → Prop} {A : α → OA} (hsub : ∀ vs H Q E, CtRO args Oi pre A vs H Q E → sp vs H Q E) (a : α) (ho : Ev Γ Ω ta (Rf p)) (hm : Ω[j]? = some (p, oI C dx fs)) (hn : fs.lookup m = none) (h : EvA Γ Ω t Rs) (ha : args a = Rf p :: Rs) (hs : (Oi a).Sublist Ω) (hp : pre a) :
    EvNw Γ Ω (tMeth2 C' C m sp' sp E ta t) (A a) := fun Z F H σ c Q q =>
  ho Z F H σ c _ fun x F1 H1 c1 s1 rx => by
    cases rx
    obtain ⟨_, o, h2, vs, eo, hf⟩ := c1.own _ (List.mem_of_getElem? hm)
    subst eo
    refine .inr ⟨p, dx, vs, rfl, h2, hf.none hn, h Z F1 H1 σ c1 _ fun ws F2 H2 c2 s2 rs => hsub _ _ _ _ ?_⟩
    exact ⟨a, F2, c2.sub, by rw [ha]; exact ⟨rfl, rs⟩, c2.own.sub fun x hx => hs.subset hx, nodup_sub c2.nd hs, hp, fun q0 F3 H3 e3 s3 hq0 ow => q q0 F3 H3 (c2.add e3 s3 ow hq0) (s1.trans (s2.trans e3)) ((s1.trans s2).dm _ hq0)⟩
end
end Y

namespace Y
open PySem L2 PySem.Spec
open PyProof.Rows
/-! ## sorted(d.keys()), the keys whole numbers -/
def tSortK (td : TE) : TE := fun σ H Q => td σ H fun x H1 => ∃ (d : Addr) (kvs : List (Key × V)) (ks : List Int), x = .ref d ∧ Rd H1 d (.dK kvs) ∧ kvs.map (·.1) = ks.map Sum.inl ∧ ks.length < 64 ∧ ∀ (ys : List Int) (p : Addr), ys.Perm ks → ys.Pairwise (· ≤ ·) → H1 p = none → Q (.ref p) (upd H1 p (.lst (ys.map V.int)))
theorem pe_sortedKeys {X : Cx} {e : Expr} {td : TE} {p0 pos apos cpos : Pos} (hc : X.calm = true) (hgs : Gl X "sorted") (hms : X.mg "sorted" = none) (he : PE X e td)
    (hbase : attributeBase e "keys" X.env (eval e X.env) = eval e X.env := by rfl) (hline : (apos.endLine == cpos.line) = true := by rfl)
    (hs1 : starEach [.Call (.Attribute e "keys" apos) [] [] cpos] X.env = (false, eval (.Call (.Attribute e "keys" apos) [] [] cpos) X.env) :: starEach [] X.env := by rfl)
    (hp1 : (backTo pos (starEach [] X.env)).any (·.1) = false := by rfl) :
    PE X (.Call (.Name "sorted" p0) [.Call (.Attribute e "keys" apos) [] [] cpos] [] pos) (tSortK td) := by
  refine ⟨fun pins s σ H Q I h => ?_⟩
  refine wpAny_Call_Name_kw (ld_blt I hgs hms (u := .builtin "sorted") (by decide +kernel) ?_)
  refine PyProof.Rows.callWith_builtin1 ?_ hs1 hp1
  rw [hs1]
  show wpAny _ _ (spliced ((false, eval (.Call (.Attribute e "keys" apos) [] [] cpos) X.env) :: backTo pos (starEach [] X.env))) _ _ s
  refine Calls.spliced_cons ?_
  refine wpAny_Call_method (T := "dict") (id := "dict.keys") hbase rfl hline F.plainAttrs_dict F.slot_dict_keys F.type_dict_keys (thn (he.run pins s σ H _ I h) fun u s1 ⟨x, H1, I1, rx, d, kvs, ks, ex, hd, hks, h64, q⟩ => ?_)
  subst ex
  obtain rfl : u = Value.ref d := rx
  obtain ⟨z, lo, vs, rel, dd⟩ := dk_rd I1.hok hd
  obtain ⟨ep, hat⟩ := dd.dictAt
  refine ⟨dd.typeIs, dd.mapOf.noDict, ?_⟩
  have hkeys : vs.map (·.1) = ks.map Sum.inl := rel.keys.symm.trans hks
  have hl : vs.length = ks.length := by
    have e := congrArg List.length hkeys
    rw [List.length_map, List.length_map] at e
    exact e
  have h16 : vs.length ≤ sizeLine := by rw [hl, sizeLine_eq]; omega
  have I2 : Inv X pins σ H1 { s1 with heap := s1.heap.push { cls := .type "dict_keys", data := .fields #[.ref d] } } := I1.kept (t' := s1.toks) fun b ob q => Heap.get?_push_of_some _ q
  show wpAny _ _ (callWith cpos (.builtin "dict.keys") [.ref d] [] []) _ X.xe s1
  refine method_meetsIn F.slot_dict_keys F.entry_dict_keys rfl (PySem.evalArgs_none ⟨rfl, dd.typeIs, F.args_dict_keys_1 _, _, PySem.W.kdl_meets_keys (mixKind X.prog X.w) d lo, ⟨vs, dd⟩, Calls.spliced_nil ?_⟩)
  refine Calls.call_function_entry PyProof.Rows.kind_sorted PyProof.Rows.plain_sorted PyProof.Rows.entry_sorted (PyProof.Rows.args_sorted1 _) ?_
  unfold Builtin.«sorted»
  refine wpAny_bind (m := checkCount "sorted" 1 1 _) (wpAny_pure ?_)
  refine wpAny_bind (PySem.W.kdu_collect (A := X.A.in1) (PySem.W.kdl_keys (knd := mixKind X.prog X.w) (d := d) (kvs := vs) (ep := ep)) (I2.ok.hd hc) ⟨⟨_, Heap.get?_push_size _ rfl, rfl, rfl⟩, hat.at fun o q => Heap.get?_push_of_some _ q⟩ h16 fun h' tk acc hk hacc => ?_)
  have hal : acc.toList.length = ks.length := by rw [Array.length_toList, hacc.1, hl]
  have hS : IntsAre acc.toList ks := ints_each hal fun j v e => by
    obtain ⟨k, x, e1, e2⟩ := hacc.2 j v (by rw [← Array.getElem?_toList]; exact e)
    have e3 : (vs.map (·.1))[j]? = some k := by rw [List.getElem?_map, e1]; rfl
    rw [hkeys, List.getElem?_map] at e3
    cases e4 : ks[j]? with
    | none => rw [e4] at e3; cases e3
    | some y =>
      rw [e4] at e3
      have e5 : Sum.inl y = k := Option.some.inj e3
      subst e5
      rcases keyIs_shape (show keyIs (Sum.inl y) v = true from e2) with ⟨i, t, ek, ev⟩ | ⟨z, t, ek, ev⟩
      · cases ek
        exact ⟨y, t, rfl, ev⟩
      · cases ek
  have I3 : Inv X pins σ H1 { s1 with heap := h', toks := tk } := I2.kept hk
  refine wpAny_bind (wpAny_newList ?_ (by rw [hal, sizeLine_eq]; omega))
  have hoL : (h'.push (seqObj "list" acc.toList.toArray 0)).get? h'.objs.size = some (seqObj "list" acc.toList.toArray 0) := Heap.get?_push_size _ rfl
  show wpAny _ _ _ _ _ { s1 with heap := h'.push (seqObj "list" acc.toList.toArray 0), toks := tk }
  refine wpAny_bind (wpAny_holding (wpAny_call_entry PyProof.Rows.slot_list_sort ⟨_, hoL, rfl⟩ PyProof.Rows.entry_list_sort
    (PyProof.Rows.list_sort_tree (s := { s1 with heap := h'.push (seqObj "list" acc.toList.toArray 0), toks := tk }) hoL hS (by rw [hal]; exact h64) fun out ys g1 g2 g3 => ⟨_, rfl, ?_⟩) (PyProof.Rows.args_list_sort _)))
  obtain ⟨e', he'⟩ := PyProof.Rows.sortedHeap_at (vs := acc.toList) (out := out) hoL
  have hlen : (ys.map V.int).length ≤ sizeLine := by
    rw [List.length_map, g2.length_eq]
    exact Nat.le_trans (Nat.le_of_lt h64) (by decide)
  refine wpAny_pure ⟨_, rfl, .ref h'.objs.size, upd H1 h'.objs.size (.lst (ys.map V.int)), I3.laid (t' := tk) (fun b u e => ?_) (Nat.le_refl _)
    (show ObjOk X.prog X.w _ _ _ (.lst (ys.map V.int)) from ⟨hlen, out.toList, e', vals_of_ints g1, by rw [Array.toArray_toList]; exact he'⟩), rfl, q ys _ g2 g3 (I3.hok.fresh (Nat.le_refl _))⟩
  have hb : b < h'.objs.size := Heap.lt_size e
  rw [PyProof.Rows.sortedHeap_old (Nat.ne_of_lt hb) (by rw [size_push']; exact Nat.lt_succ_of_lt hb)]
  exact Heap.get?_push_of_some _ e
/-! ## dicts by whole numbers under a lock -/
def oDk (od : Obj) (kvs : List (Key × V)) (l : List (Int × As)) : OA := ⟨fun F o => o = .frz od (.dK kvs) ∧ AllK F l kvs, fun s h => ⟨h.1, h.2.mono s⟩⟩
theorem AllK.at {F : Hp} : ∀ {l : List (Int × As)} {kvs : List (Key × V)} {i : Nat} {x : Int × As}, AllK F l kvs → l[i]? = some x → ∃ v, kvs[i]? = some (.inl x.1, v) ∧ x.2.p F v
  | [], [], i, x, _, e => by simp at e
  | (k, R) :: l, (q, v) :: kvs, 0, x, h, e => by
    have e' : (k, R) = x := Option.some.inj e
    subst e'
    obtain ⟨h1, h2, _⟩ := h
    exact ⟨v, by rw [h1]; rfl, h2⟩
  | (k, R) :: l, (q, v) :: kvs, i + 1, x, h, e => by
    obtain ⟨w, a, b⟩ := AllK.at (i := i) h.2.2 (by simpa using e)
    exact ⟨w, by simpa using a, b⟩
  | [], _ :: _, _, _, h, _ => h.elim
  | _ :: _, [], _, _, h, _ => h.elim
theorem AllK.ks {F : Hp} : ∀ {l : List (Int × As)} {kvs : List (Key × V)}, AllK F l kvs → kvs.map (·.1) = (l.map (·.1)).map Sum.inl
  | [], [], _ => rfl
  | (k, R) :: l, (q, v) :: kvs, h => by
    rw [List.map_cons, List.map_cons, List.map_cons, AllK.ks h.2.2, h.1]
  | [], _ :: _, h => h.elim
  | _ :: _, [], h => h.elim
section
variable {Z : Bs} {F H : Hp} {σ : L2.St} {Γ : Gm} {Ω : Om} {K : PySem.W.Frag} {te td ta : TE} {d p : Addr} {j : Nat} {l : List (Int × As)} {R : As} {A : OA} {n : L2.St → Hp → Prop} {r : VK} {bk ct : L2.St → Hp → Prop}
theorem Ctx.unlockD {od : Obj} {kvs : List (Key × V)} (c : Ctx (swapZ Z d (.frz od (.dK kvs))) F H σ Γ Ω) (hk : LkOk Z d (.dK kvs)) (hm : Ω[j]? = some (d, oDk od kvs l)) : H d = some (.frz od (.dK kvs)) ∧ Ctx Z F (upd H d (.dK kvs)) σ Γ (Ω.set j (d, oD l)) := by
  obtain ⟨hf, o0, h0, e0, hx⟩ := c.own _ (List.mem_of_getElem? hm)
  dsimp only at h0
  refine ⟨by rw [h0, e0], c.back hk hm ⟨kvs, rfl, hx⟩⟩
theorem st_lockD {t : TS} (c : Ctx Z F H σ Γ Ω) (hm : Ω[j]? = some (d, oD l)) (kk : ∀ od kvs, LkOk Z d (.dK kvs) → Ctx (swapZ Z d (.frz od (.dK kvs))) F (upd H d (.frz od (.dK kvs))) σ Γ (Ω.set j (d, oDk od kvs l)) →
    t ⟨fun σ' H' => H' d = some (.frz od (.dK kvs)) ∧ n σ' (upd H' d (.dK kvs)), fun v H' => H' d = some (.frz od (.dK kvs)) ∧ r v (upd H' d (.dK kvs)), fun σ' H' => H' d = some (.frz od (.dK kvs)) ∧ bk σ' (upd H' d (.dK kvs)), fun σ' H' => H' d = some (.frz od (.dK kvs)) ∧ ct σ' (upd H' d (.dK kvs))⟩ σ (upd H d (.frz od (.dK kvs)))) : tLock t ⟨n, r, bk, ct⟩ σ H := by
  obtain ⟨hf, o0, h0, kvs, e0, hx⟩ := c.own _ (List.mem_of_getElem? hm)
  dsimp only at h0
  subst e0
  exact ⟨d, .dK kvs, h0, trivial, fun od => kk od kvs (c.lkOk h0) (c.swap hm ⟨rfl, hx⟩)⟩
theorem src_ditems {od : Obj} {kvs : List (Key × V)} (e : Ev Γ Ω te (Rf d)) (hm : Ω[j]? = some (d, oDk od kvs l)) : SrcK (fun Ω' => (d, oDk od kvs l) ∈ Ω') Γ Ω (iItems te) l (fun x => Tp K [I x.1, x.2]) := fun Z F H σ c R q => e Z F H σ c _ fun v F1 H1 c1 s1 rv => by
  cases rv
  obtain ⟨hf, o0, h0, e0, hx⟩ := c1.own _ (List.mem_of_getElem? hm)
  dsimp only at h0
  refine ⟨d, od, kvs, rfl, by rw [h0, e0], q _ F1 H1 c1 s1 fun Z' F2 H2 σ2 Γ2 Ω2 c2 s2 hk => ?_⟩
  obtain ⟨_, o1, h1, e1, hx2⟩ := c2.own _ hk
  dsimp only at h1
  have hh : H2 d = some (.frz od (.dK kvs)) := by rw [h1, e1]
  refine ⟨⟨hh, Nat.le_of_eq hx2.length⟩, fun i y hy => ?_⟩
  obtain ⟨w, hw1, hw2⟩ := hx2.at hy
  refine ⟨⟨hh, (List.getElem?_eq_some_iff.mp hw1).1⟩, fun v H3 hv => ?_⟩
  obtain ⟨T, k', v', z2, z3, z4, z5⟩ := hv
  rw [hw1] at z2
  cases z2
  subst z3 z5
  obtain ⟨e3, s3⟩ := Ext.new (o := .tup [kV (.inl y.1), w]) c2.sub z4
  exact ⟨_, e3, s3, T, _, rfl, SqT.of upd_same, rfl, y.2.mono e3.fe hw2, trivial⟩
theorem src_dkeys {od : Obj} {kvs : List (Key × V)} (e : Ev Γ Ω te (Rf d)) (hm : Ω[j]? = some (d, oDk od kvs l)) : SrcK (fun Ω' => (d, oDk od kvs l) ∈ Ω') Γ Ω (iKeys te) (l.map (·.1)) (fun x => I x) := fun Z F H σ c R q => e Z F H σ c _ fun v F1 H1 c1 s1 rv => by
  cases rv
  obtain ⟨hf, o0, h0, e0, hx⟩ := c1.own _ (List.mem_of_getElem? hm)
  dsimp only at h0
  refine ⟨d, od, rfl, .inl ⟨kvs, by rw [h0, e0], q _ F1 H1 c1 s1 fun Z' F2 H2 σ2 Γ2 Ω2 c2 s2 hk => ?_⟩⟩
  obtain ⟨_, o1, h1, e1, hx2⟩ := c2.own _ hk
  dsimp only at h1
  have hh : H2 d = some (.frz od (.dK kvs)) := by rw [h1, e1]
  refine ⟨⟨hh, by rw [List.length_map]; exact Nat.le_of_eq hx2.length⟩, fun i x hi => ?_⟩
  rw [List.getElem?_map] at hi
  obtain ⟨y, hy, ey⟩ := Option.map_eq_some_iff.mp hi
  subst ey
  obtain ⟨w, hw1, hw2⟩ := hx2.at hy
  refine ⟨⟨hh, (List.getElem?_eq_some_iff.mp hw1).1⟩, fun v H3 hv => ?_⟩
  obtain ⟨z1, k', v', z2, z3⟩ := hv
  subst z1
  rw [hw1] at z2
  cases z2
  exact ⟨F2, Ext.refl _ _ _, c2.sub, z3⟩
/-- isinstance(d, dict), d owned -/
theorem ev_isD {cv : Value} {c : V} {tc : TE} {b : Bool} (he : Ev Γ Ω te (Rf p)) (h2 : Ev Γ Ω tc (Cst c)) (hm : Ω[j]? = some (p, oD l)) (hc : ClsV c cv) (hk : PySem.W.kitOne K (.type "dict") cv = some b) : Ev Γ Ω (tCB (rIsi K) (tCons te (tCons tc tNil))) (B b) := fun Z F H σ c' Q q =>
  he Z F H σ c' _ fun x F1 H1 c1 s1 rx => h2 Z F1 H1 σ c1 _ fun y F2 H2 c2 s2 ry => by
    cases rx
    cases ry
    obtain ⟨_, o, h2, kvs, eo, hf⟩ := c2.own _ (List.mem_of_getElem? hm)
    subst eo
    exact ⟨_, _, _, _, b, rfl, hc, .base (TyOf.dK h2), hk, q _ F2 H2 c2 (s1.trans s2) rfl⟩
theorem st_dclear (c : Ctx Z F H σ Γ Ω) (h : Ev Γ Ω ta (Rf p)) (hm : Ω[j]? = some (p, oD l)) (k : ∀ F' H', Ctx Z F' H' σ Γ (Ω.set j (p, oD [])) → n σ H') (hw : Wr Z p) : tDrop (tBM0 K "dict" rDClear ta) ⟨n, r, bk, ct⟩ σ H := by
  refine h Z F H σ c _ fun v F1 H1 c1 s1 rv => ?_
  cases rv
  obtain ⟨_, o, h2, kvs, eo, hx⟩ := c1.own _ (List.mem_of_getElem? hm)
  subst eo
  exact ⟨.inr (.inr (.inl ⟨rfl, .inl ⟨kvs, h2⟩⟩)), p, kvs, rfl, rfl, h2, k F1 _ (c1.chg hm (A' := oD []) ⟨[], rfl, trivial⟩ hw)⟩
/-- sorted(d.keys()) -/
theorem eo_sortedK {ks ns : List Int} (ha : Ev Γ Ω te (Rf p)) (hm : Ω[j]? = some (p, oD l)) (e : l.map (·.1) = ks) (hn : ns.Perm ks) (hp : ns.Pairwise (· ≤ ·)) (h64 : ks.length < 64) : EvNw Γ Ω (tSortK te) (oL (ns.map fun n => I n)) := fun Z F H σ c Q q =>
  ha Z F H σ c _ fun v F1 H1 c1 s1 rv => by
    cases rv
    obtain ⟨_, o, h2, kvs, eo, hx⟩ := c1.own _ (List.mem_of_getElem? hm)
    subst eo
    refine ⟨p, kvs, ks, rfl, .inl h2, by rw [← e]; exact hx.ks, h64, fun ys a hy hs ha => ?_⟩
    have ey : ys = ns := ints_eq (hy.trans hn.symm) hs hp
    subst ey
    exact q a F1 _ (c1.grow (A := oL (ys.map fun n => I n)) ha ⟨_, rfl, allI ys⟩) (s1.trans (Ext.newH ha)) (s1.dm _ ha)
end

/-! ## more of lists and dicts that are new or stand still -/
section
variable {Z : Bs} {F H : Hp} {σ : L2.St} {Γ : Gm} {Ω : Om} {K : PySem.W.Frag} {te tb ta : TE} {t : TA} {d p : Addr} {j : Nat} {l : List (Int × As)} {R R' : As} {A : OA} {Rs Ss : List As}
theorem lw_lh (h : Ev Γ Ω te (Lh Rs)) : Lw Γ Ω te Rs := fun Z F H σ c Q q => h Z F H σ c _ fun v F1 H1 c1 s1 ⟨a, xs, e, h1, h2⟩ => by
  subst e
  exact q a F1 H1 c1 s1 ⟨xs, h1, h2⟩
theorem lh_lw (h : Lw Γ Ω te Rs) : Ev Γ Ω te (Lh Rs) := fun Z F H σ c Q q => h Z F H σ c Q fun a F1 H1 c1 s1 ⟨xs, e, l⟩ => q _ F1 H1 c1 s1 ⟨a, xs, rfl, e, l⟩
theorem lh_ls {F : Hp} {v : V} (h : (Lh Rs).p F v) : (Ls K Rs).p F v := by
  obtain ⟨a, xs, e, h1, h2⟩ := h
  exact ⟨a, xs, e, SqL.of h1, h2⟩
/-- what is new is frozen at once -/
theorem ev_ofNwG (e : EvNw Γ Ω te A) (hf : ∀ (F F' : Hp) (p : Addr) (o : HO), A.p F o → Same F F' → F' p = some o → R.p F' (.ref p)) : Ev Γ Ω te R := fun Z F H σ c Q q => e Z F H σ c _ fun p F' H' c2 s hn => by
  obtain ⟨h1, o, h2, hx⟩ := c2.own _ List.mem_cons_self
  dsimp only at h1 h2
  have s2 : Same F' (upd F' p o) := fun a u q => by rw [upd_ne (ne_of_none q h1)]; exact q
  have nd := c2.nd
  rw [List.map_cons, List.nodup_cons] at nd
  have other : ∀ x ∈ Ω, x.1 ≠ p := fun x hx z => nd.1 (List.mem_map.mpr ⟨x, hx, z⟩)
  have sub2 : Same (upd F' p o) H' := fun a u q => by
    by_cases z : a = p
    · rw [z] at q ⊢; rw [upd_same] at q; rw [← q]; exact h2
    · rw [upd_ne z] at q; exact c2.sub a u q
  have c3 : Ctx Z (upd F' p o) H' σ Γ Ω := by
    refine ⟨c2.sat.mono s2, sub2, fun x hx => ?_, nd.2, fun x hx => c2.loc x (List.mem_cons_of_mem _ hx), ⟨c2.ext.fe.trans s2, c2.ext.fr, c2.ext.dm, fun a g1 g2 => ?_⟩, c2.pin.trans s2⟩
    · obtain ⟨k1, o', k2, k3⟩ := c2.own x (List.mem_cons_of_mem _ hx)
      exact ⟨by rw [upd_ne (other x hx)]; exact k1, o', k2, x.2.mono s2 k3⟩
    · have z : a ≠ p := fun z => g1 (by rw [z]; exact c.ext.dm _ hn)
      rw [upd_ne z]
      exact c2.ext.nw a g1 g2
  refine q _ _ H' c3 ⟨s.fe.trans s2, s.fr, s.dm, fun a g1 g2 => ?_⟩ (hf F' _ p o hx s2 upd_same)
  have z : a ≠ p := fun z => g1 (by rw [z]; exact hn)
  rw [upd_ne z]
  exact s.nw a g1 g2
theorem lw_nw (e : EvNw Γ Ω te (oL Rs)) : Lw Γ Ω te Rs := lw_lh (ev_ofNwG e fun F F' p o ⟨xs, eo, hx⟩ s h => ⟨p, xs, rfl, by rw [h, eo], hx.mono s⟩)
theorem ev_ofNwD (e : EvNw Γ Ω te (oD l)) : Ev Γ Ω te (Dc l) := ev_ofNwG e fun F F' p o ⟨kvs, eo, hx⟩ s h => ⟨p, kvs, rfl, by rw [h, eo], hx.mono s⟩
/-- a slot by other words -/
theorem Ctx.retype (c : Ctx Z F H σ Γ Ω) (i : Nat) (h : Γ[i]? = some (some R)) (k : ∀ v, R.p F v → R'.p F v) : Ctx Z F H σ (Γ.set i (some R')) Ω := by
  obtain ⟨v, e, r⟩ := c.sat.get h
  have z := c.set i (k v r)
  have e2 : σ.set i (some v) = σ := by
    apply List.ext_getElem?
    intro j
    by_cases hj : i = j
    · subst hj
      rw [List.getElem?_set_self (by have := (List.getElem?_eq_some_iff.mp e).1; exact this), e]
    · rw [List.getElem?_set_ne hj]
  rw [e2] at z
  exact z
/-- a def with a promise without changes, some arguments left out -/
theorem ev_callDv {α : Type} {args : α → List As} {pre : α → Prop} {res : α → As} {E : XK} {dvs : List V} (a : α) (h : EvA Γ Ω t Rs) (ha : ∀ F vs, All F Rs vs → All F (args a) (vs ++ dvs)) (hp : pre a) : Ev Γ Ω (tCall (CtF args pre res) dvs E t) (res a) := fun Z F H σ c Q q =>
  h Z F H σ c _ fun vs F1 H1 c1 s1 rs => ⟨a, F1, c1.sub, ha _ _ rs, hp, fun v F2 H2 e2 s2 r => q v F2 H2 (c1.step e2 s2) (s1.trans e2) r⟩
/-! dict(pairs), the keys whole numbers -/
theorem allK_merge {F : Hp} : ∀ {xs : List (Int × Int)} {acc : List (Int × As)} {kacc : List (Key × V)}, AllK F acc kacc → AllK F (xs.foldl (fun a x => putD a x.1 (I x.2)) acc) (mergeK kacc (xs.map fun x => (Sum.inl x.1, V.int x.2)))
  | [], _, _, h => h
  | x :: xs, acc, kacc, h => by
    have h2 : AllK F (putD acc x.1 (I x.2)) (putK kacc (.inl x.1) (V.int x.2)) := AllK.put (R := I x.2) rfl h
    exact allK_merge (xs := xs) h2
theorem fold_putD {β : Type} : ∀ {xs : List (Int × β)} {acc : List (Int × β)}, ((acc ++ xs).map (·.1)).Nodup → xs.foldl (fun a x => putD a x.1 x.2) acc = acc ++ xs
  | [], acc, _ => (List.append_nil acc).symm
  | x :: xs, acc, h => by
    have hn : hasD x.1 acc = false := by
      have hm : x.1 ∉ acc.map (·.1) := fun z => by
        rw [List.map_append, List.nodup_append] at h
        exact h.2.2 _ z x.1 List.mem_cons_self rfl
      have key : ∀ l : List (Int × β), x.1 ∉ l.map (·.1) → hasD x.1 l = false := fun l => by
        induction l with
        | nil => intro _; rfl
        | cons q l ih =>
          intro h
          show (decide (q.1 = x.1) || hasD x.1 l) = false
          rw [ih fun z => h (List.mem_cons_of_mem _ z), decide_eq_false (fun z => h (by rw [← z]; exact List.mem_cons_self))]; rfl
      exact key acc hm
    have e : putD acc x.1 x.2 = acc ++ [x] := by unfold putD; rw [hn, if_neg Bool.false_ne_true]
    rw [List.foldl_cons, e, fold_putD (xs := xs) (acc := acc ++ [x]) (by rw [List.append_assoc]; exact h), List.append_assoc]; rfl
theorem all_pairs {F : Hp} : ∀ {xs : List (Int × Int)} {vs : List V}, All F (xs.map (Fr K)) vs → ∃ ps : List Addr, vs = ps.map V.ref ∧ Paired (fun p (kv : Key × V) => SqT K F p [kV kv.1, kv.2]) ps (xs.map fun x => (Sum.inl x.1, V.int x.2))
  | [], [], _ => ⟨[], rfl, .nil⟩
  | x :: xs, v :: vs, ⟨⟨a, ys, e, h1, h2⟩, h3⟩ => by
    obtain ⟨ps, e2, hp⟩ := all_pairs h3
    obtain ⟨y1, y2, ey, r1, r2⟩ := h2.two
    cases r1
    cases r2
    subst ey e e2
    exact ⟨a :: ps, rfl, .cons h1 hp⟩
  | [], _ :: _, h => h.elim
  | _ :: _, [], h => h.elim
theorem paired_same {F H : Hp} (s : Same F H) {ps : List Addr} {ks : List (Key × V)} (h : Paired (fun p (kv : Key × V) => SqT K F p [kV kv.1, kv.2]) ps ks) : Paired (fun p (kv : Key × V) => SqT K H p [kV kv.1, kv.2]) ps ks := by
  induction h with
  | nil => exact .nil
  | cons h t ih => exact .cons (same_seqT s h) ih
theorem eo_dictP {xs : List (Int × Int)} (ha : EvA Γ Ω t [Ls K (xs.map (Fr K))]) (nd : (xs.map (·.1)).Nodup) : EvNw Γ Ω (tCB (fun us H Q => ∃ (a : Addr) (ps : List Addr) (kvs : List (Key × V)), us = [.ref a] ∧ SqL K H a (ps.map V.ref) ∧ Paired (fun p kv => SqT K H p [kV kv.1, kv.2]) ps kvs ∧
    ∀ p, H p = none → Q (.ref p) (upd H p (.dK (mergeK [] kvs)))) t) (oD (xs.map fun x => (x.1, I x.2))) := fun Z F H σ c Q q =>
  ha Z F H σ c _ fun vs F1 H1 c1 s1 rs => by
    obtain ⟨v, rfl, a, ys, e, h1, h2⟩ := rs.one
    subst e
    obtain ⟨ps, ep, hp⟩ := all_pairs h2
    subst ep
    refine ⟨a, ps, _, rfl, c1.sub.seq h1, paired_same c1.sub hp, fun p hpn => q p F1 _ (c1.grow (A := oD (xs.map fun x => (x.1, I x.2))) hpn ⟨_, rfl, ?_⟩) (s1.trans (Ext.newH hpn)) (s1.dm _ hpn)⟩
    have h3 := allK_merge (F := F1) (xs := xs) (acc := []) (kacc := []) trivial
    have e4 : xs.foldl (fun a x => putD a x.1 (I x.2)) ([] : List (Int × As)) = xs.map fun x => (x.1, I x.2) := by
      have h5 := fold_putD (xs := xs.map fun x => (x.1, I x.2)) (acc := []) (by rw [List.nil_append, List.map_map]; exact nd)
      rw [List.foldl_map] at h5
      exact h5
    rw [e4] at h3
    exact h3
/-! d == e, both frozen, of whole numbers -/
theorem allK_int {F : Hp} : ∀ {l : List (Int × Int)} {kvs : List (Key × V)}, AllK F (l.map fun x => (x.1, I x.2)) kvs → kvs = l.map fun x => (Sum.inl x.1, V.int x.2)
  | [], [], _ => rfl
  | x :: l, (q, v) :: kvs, ⟨h1, h2, h3⟩ => by
    have h2 : v = V.int x.2 := h2
    rw [h1, h2, allK_int h3]; rfl
  | [], _ :: _, h => h.elim
  | _ :: _, [], h => h.elim
theorem valV_dint {k v : Int} : ∀ {l : List (Int × Int)}, getD k l = some v → valV (l.map fun x => ((Sum.inl x.1 : Key), V.int x.2)) (.inl k) = some (V.int v)
  | [], h => by cases h
  | (i, x) :: l, h => by
    have h : (if i = k then some x else getD k l) = some v := h
    rw [List.map_cons]
    by_cases e : i = k
    · rw [if_pos e] at h
      cases h
      exact valV_pos (congrArg Sum.inl e)
    · rw [if_neg e] at h
      rw [valV_neg (fun z => e (Sum.inl.inj z))]
      exact valV_dint h
theorem ev_neDD {l1 l2 : List (Int × Int)} (h1 : Ev Γ Ω ta (Dc (l1.map fun x => (x.1, I x.2)))) (h2 : Ev Γ Ω tb (Dc (l2.map fun x => (x.1, I x.2)))) (hl : l1.length = l2.length) (hh : ∀ x ∈ l1, getD x.1 l2 = some x.2) : Ev Γ Ω (tOp rNeDA ta tb) (B false) := fun Z F H σ c Q q =>
  h1 Z F H σ c _ fun v F1 H1 c1 s1 ⟨a1, k1, e1, g1, r1⟩ => h2 Z F1 H1 σ c1 _ fun w F2 H2 c2 s2 ⟨a2, k2, e2, g2, r2⟩ => by
    subst e1 e2
    have z1 := allK_int r1
    have z2 := allK_int r2
    subst z1 z2
    refine ⟨a1, a2, _, _, rfl, rfl, c2.sub _ _ (s2.fe _ _ g1), c2.sub _ _ g2, by rw [List.length_map, List.length_map, hl], fun y hy => ?_, q _ F2 H2 c2 (s1.trans s2) rfl⟩
    obtain ⟨x, hx, ex⟩ := List.mem_map.mp hy
    subst ex
    exact ⟨valV_dint (hh x hx), rfl⟩
end
end Y

namespace Y
open PySem L2 PySem.Spec
/-! ## texts: str(n), rjust, join, startswith -/
/-- a method of a built-in, in a comprehension: K told -/
theorem pe_bmK {X : Cx} {K : PySem.W.Frag} {o e : Expr} {es : List Expr} {to : TE} {t : TA} {name : Str} {apos cpos : Pos} {T id : String} {r : V → List V → Hp → VK → Prop} (hK : X.K = K) (pa : PlainAttrs T) (slot : Slot T name id) (hty : typeOf (.builtin id) = pure (.type "method_descriptor")) (hm : MtR X id r) (ho : PE X o to) (ha : PA X (e :: es) t)
    (hbase : attributeBase o name X.env (eval o X.env) = eval o X.env := by rfl)
    (hfew : ((backTo cpos (starEach (e :: es) X.env)).all (fun x => !x.1) && (backToKw cpos (keywordEach [] X.env)).all (fun x => x.1.isSome)
      && decide ((e :: es).length + ([] : List Keyword).length + (if ([] : List Keyword).isEmpty then 0 else 1) < 30)) = true := by rfl)
    (hline : (apos.endLine == cpos.line) = true := by rfl) (hs : starEach (e :: es) X.env = (false, eval e X.env) :: starEach es X.env := by rfl) (hplain : (backTo cpos (starEach es X.env)).any (·.1) = false := by rfl) :
    PE X (.Call (.Attribute o name apos) (e :: es) [] cpos) (tBM K T r to t) := by
  have h := pe_bm pa slot hty hm ho ha hbase hfew hline hs hplain
  rw [hK] at h
  exact h
def rStrI : List V → Hp → VK → Prop := fun xs H Q => ∃ i : Int, xs = [.int i] ∧ i.natAbs.log2 < 1920 ∧ Q (.str (toString i)) H
theorem rc_strI {n : Int} (h : n.natAbs.log2 < 1920) : RC rStrI [I n] (S (toString n)) := fun F H vs s hv Q q => by
  obtain ⟨v, rfl, e⟩ := hv.one
  cases e
  exact ⟨n, rfl, h, q _ F H (Ext.refl _ _ _) s rfl⟩
theorem strs_of {F : Hp} : ∀ {ys : List Str} {zs : List V}, All F (ys.map fun y => S y) zs → zs = ys.map V.str
  | [], [], _ => rfl
  | y :: ys, z :: zs, h => by
    have e : z = .str y := h.1
    rw [e, strs_of h.2]; rfl
  | [], _ :: _, h => h.elim
  | _ :: _, [], h => h.elim
section
variable {Γ : Gm} {Ω : Om} {K : PySem.W.Frag} {ta tb : TE}
def rRjust : V → List V → Hp → VK → Prop := fun x xs H Q => ∃ (a : Str) (i : Int), x = .str a ∧ xs = [.int i] ∧ PadOk i = true ∧ Q (.str (Txt.rjust a i)) H
theorem ev_rjust {x : Str} {n : Int} (ha : Ev Γ Ω ta (S x)) (hb : Ev Γ Ω tb (I n)) (h : PadOk n = true) : Ev Γ Ω (tBM K "str" rRjust ta (tCons tb tNil)) (S (Txt.rjust x n)) := fun Z F H σ c Q q =>
  ha Z F H σ c _ fun v F1 H1 c1 s1 rv => by
    cases rv
    refine ⟨rfl, hb Z F1 H1 σ c1 _ fun w F2 H2 c2 s2 rw' => ?_⟩
    cases rw'
    exact ⟨x, n, rfl, rfl, h, q _ F2 H2 c2 (s1.trans s2) rfl⟩
def rJoin (K : PySem.W.Frag) : V → List V → Hp → VK → Prop := fun x xs H Q => ∃ a p, ∃ ys : List Str, x = .str a ∧ xs = [.ref p] ∧ (SqL K H p (ys.map V.str) ∨ SqT K H p (ys.map V.str)) ∧ (ys.map (·.length)).sum + ys.length * a.length ≤ 16777216 ∧ Q (.str (Txt.join a ys)) H
theorem ev_join {x : Str} {ys : List Str} (ha : Ev Γ Ω ta (S x)) (hb : Ev Γ Ω tb (Ls K (ys.map fun y => S y))) (h : (ys.map (·.length)).sum + ys.length * x.length ≤ 16777216) : Ev Γ Ω (tBM K "str" (rJoin K) ta (tCons tb tNil)) (S (Txt.join x ys)) := fun Z F H σ c Q q =>
  ha Z F H σ c _ fun v F1 H1 c1 s1 rv => by
    cases rv
    refine ⟨rfl, hb Z F1 H1 σ c1 _ fun w F2 H2 c2 s2 rw' => ?_⟩
    obtain ⟨p, zs, e, hs, hl⟩ := rw'
    subst e
    have ez := strs_of hl
    subst ez
    exact ⟨x, p, ys, rfl, rfl, .inl (c2.sub.seq hs), h, q _ F2 H2 c2 (s1.trans s2) rfl⟩
def rStartsW : V → List V → Hp → VK → Prop := fun x xs H Q => ∃ a b : Str, x = .str a ∧ xs = [.str b] ∧ Q (.bl (Txt.startswith a b)) H
theorem ev_startsW {x y : Str} (ha : Ev Γ Ω ta (S x)) (hb : Ev Γ Ω tb (S y)) : Ev Γ Ω (tBM K "str" rStartsW ta (tCons tb tNil)) (B (Txt.startswith x y)) := fun Z F H σ c Q q =>
  ha Z F H σ c _ fun v F1 H1 c1 s1 rv => by
    cases rv
    refine ⟨rfl, hb Z F1 H1 σ c1 _ fun w F2 H2 c2 s2 rw' => ?_⟩
    cases rw'
    exact ⟨x, y, rfl, rfl, q _ F2 H2 c2 (s1.trans s2) rfl⟩
def rSplit : V → List V → Hp → VK → Prop := fun x xs H Q => ∃ a b : Str, x = .str a ∧ xs = [.str b] ∧ (b.length == 0) = false ∧ a.length + 2 ≤ sizeLine ∧ rNewStrs (Txt.split a b) H Q
theorem all_of {F : Hp} : ∀ {ys : List Str}, All F (ys.map fun y => S y) (ys.map V.str)
  | [] => trivial
  | y :: ys => ⟨rfl, all_of⟩
theorem ev_split {x y : Str} (ha : Ev Γ Ω ta (S x)) (hb : Ev Γ Ω tb (S y)) (h1 : (y.length == 0) = false) (h2 : x.length + 2 ≤ sizeLine) : Ev Γ Ω (tBM K "str" rSplit ta (tCons tb tNil)) (Ls K ((Txt.split x y).map fun z => S z)) := fun Z F H σ c Q q =>
  ha Z F H σ c _ fun v F1 H1 c1 s1 rv => by
    cases rv
    refine ⟨rfl, hb Z F1 H1 σ c1 _ fun w F2 H2 c2 s2 rw' => ?_⟩
    cases rw'
    refine ⟨x, y, rfl, rfl, h1, h2, fun p hp => ?_⟩
    obtain ⟨F3, H3, e, c3, s3, r⟩ := new_ls (K := K) (Rs := (Txt.split x y).map fun z => S z) c2 all_of hp
    rw [← e]
    exact q _ F3 H3 c3 ((s1.trans s2).trans s3) r
def rPart : V → List V → Hp → VK → Prop := fun x xs H Q => ∃ a b : Str, x = .str a ∧ xs = [.str b] ∧ (b.length == 0) = false ∧ a.length ≤ sizeLine ∧ ∀ p, H p = none → Q (.ref p) (upd H p (.tup [.str (Txt.partition a b).1, .str (Txt.partition a b).2.1, .str (Txt.partition a b).2.2]))
theorem ev_part {x y : Str} (ha : Ev Γ Ω ta (S x)) (hb : Ev Γ Ω tb (S y)) (h1 : (y.length == 0) = false) (h2 : x.length ≤ sizeLine) : Ev Γ Ω (tBM K "str" rPart ta (tCons tb tNil)) (Tp K [S (Txt.partition x y).1, S (Txt.partition x y).2.1, S (Txt.partition x y).2.2]) := fun Z F H σ c Q q =>
  ha Z F H σ c _ fun v F1 H1 c1 s1 rv => by
    cases rv
    refine ⟨rfl, hb Z F1 H1 σ c1 _ fun w F2 H2 c2 s2 rw' => ?_⟩
    cases rw'
    refine ⟨x, y, rfl, rfl, h1, h2, fun p hp => ?_⟩
    obtain ⟨e, s⟩ := Ext.new (o := .tup [.str (Txt.partition x y).1, .str (Txt.partition x y).2.1, .str (Txt.partition x y).2.2]) c2.sub hp
    exact q (.ref p) _ _ (c2.step e s) ((s1.trans s2).trans e) ⟨p, _, rfl, SqT.of upd_same, rfl, rfl, rfl, trivial⟩
def rIntS : List V → Hp → VK → Prop := fun xs H Q => ∃ (a : Str) (n : Int), xs = [.str a] ∧ PySem.intText? a = some n ∧ a.length ≤ 640 ∧ Q (.int n) H
theorem rc_intS {x : Str} {n : Int} (h : PySem.intText? x = some n) (hl : x.length ≤ 640) : RC rIntS [S x] (I n) := fun F H vs s hv Q q => by
  obtain ⟨v, rfl, e⟩ := hv.one
  cases e
  exact ⟨x, n, rfl, h, hl, q _ F H (Ext.refl _ _ _) s rfl⟩
def rInSg : V → V → Hp → VK → Prop := fun x y H Q => ∃ (c : Nat) (z : Str), x = .str ⟨#[c]⟩ ∧ y = .str z ∧ Q (.bl (decide (c ∈ z.cps.toList))) H
theorem ev_inSg {k : Nat} {y : Str} (ha : Ev Γ Ω ta (S ⟨#[k]⟩)) (hb : Ev Γ Ω tb (S y)) : Ev Γ Ω (tOp rInSg ta tb) (B (decide (k ∈ y.cps.toList))) := ev_op ha hb fun F H x z s e e' Q q => by
  cases e; cases e'
  exact ⟨k, y, rfl, rfl, q _ F H (Ext.refl _ _ _) s rfl⟩
def rNiSg : V → V → Hp → VK → Prop := fun x y H Q => ∃ (c : Nat) (z : Str), x = .str ⟨#[c]⟩ ∧ y = .str z ∧ Q (.bl (!decide (c ∈ z.cps.toList))) H
theorem ev_niSg {k : Nat} {y : Str} (ha : Ev Γ Ω ta (S ⟨#[k]⟩)) (hb : Ev Γ Ω tb (S y)) : Ev Γ Ω (tOp rNiSg ta tb) (B (!decide (k ∈ y.cps.toList))) := ev_op ha hb fun F H x z s e e' Q q => by
  cases e; cases e'
  exact ⟨k, y, rfl, rfl, q _ F H (Ext.refl _ _ _) s rfl⟩
/-! a module's constant that is a tuple of texts -/
def KtS (K : PySem.W.Frag) (a : Addr) (ys : List Str) : Prop := ∀ F : Hp, SqT K F a (ys.map V.str)
theorem kts_mk {a : Addr} {dd : Option Addr} {sl : Array (Option Value)} {ys : List Str} {us : List Value} {n : Nat} (h : K.lookup a = some ⟨.type "tuple", dd, .seq us.toArray n, sl⟩) (r : Vals (ys.map V.str) us) (hl : us.length ≤ 1000) : KtS K a ys := fun F =>
  .inr ⟨_, us.toArray, n, h, rfl, rfl, by rw [List.size_toArray]; exact Nat.le_of_lt (small1000 hl), by rw [List.toList_toArray]; exact r⟩
theorem ev_ktS {a : Addr} {ys : List Str} (h : KtS K a ys) : Ev Γ Ω (tC (.ref a)) (Tp K (ys.map fun y => S y)) := fun Z F H σ c Q q => q _ F H c (Ext.refl _ _ _) ⟨a, _, rfl, h F, all_of⟩
/-- list(a tuple) -/
theorem ev_listTp {Rs : List As} (ha : Ev Γ Ω ta (Tp K Rs)) : Ev Γ Ω (tCB (fun xs H Q => ∃ p ys, xs = [.ref p] ∧ (SqL K H p ys ∨ SqT K H p ys) ∧ ∀ l, H l = none → Q (.ref l) (upd H l (.lst ys))) (tCons ta tNil)) (Ls K Rs) := fun Z F H σ c Q q =>
  ha Z F H σ c _ fun a F1 H1 c1 s1 rv => by
    obtain ⟨a, xs, e, hs, hl⟩ := rv
    subst e
    refine ⟨a, xs, rfl, .inr (same_seqT c1.sub hs), fun p hp => ?_⟩
    obtain ⟨F2, H2, e, c2, s2, r⟩ := new_ls (K := K) (Rs := Rs) c1 hl hp
    rw [← e]
    exact q _ F2 H2 c2 (s1.trans s2) r
end
/-! a text some times, or never -/
def rMulS0 : R2 := fun x y H Q => ∃ z k, x = .str z ∧ y = .int k ∧ 0 ≤ k ∧ k ≤ 1000 ∧ 1 ≤ z.length ∧ z.length ≤ 1000 ∧ Q (.str (repS z k.toNat)) H
theorem op_mulS0 {X : Cx} : OpR X (binaryOp .Mult) rMulS0 := by
  intro pins s σ H x y v u Q I rx ry h
  obtain ⟨z, k, e1, e2, h1, h2, h3, h4, q⟩ := h
  by_cases h0 : k = 0
  · subst e1 e2 h0
    obtain ⟨t, rfl⟩ := rx
    obtain ⟨t', rfl⟩ := ry
    have hz : (z.length == 0) = false := by simp; omega
    refine P.mul_str (by simp) (fun hh _ => absurd hh (by decide)) (fun _ _ => ?_) ?_
    · refine decide_eq_false ?_
      simp
    · rw [if_pos (by omega)]
      have e0 : repS z (0 : Int).toNat = Str.empty := rfl
      rw [e0] at q
      exact ⟨by decide, .str Str.empty, H, I.tok _, ⟨_, rfl⟩, q⟩
  · exact op_mulS pins s σ H x y v u Q I rx ry ⟨z, k, e1, e2, by omega, h2, h3, h4, q⟩
section
variable {Γ : Gm} {Ω : Om} {K : PySem.W.Frag} {ta tb : TE}
theorem ev_mulS0 {z : Str} {k : Int} (ha : Ev Γ Ω ta (S z)) (hb : Ev Γ Ω tb (I k)) (h : 0 ≤ k ∧ k ≤ 1000 ∧ 1 ≤ z.length ∧ z.length ≤ 1000) : Ev Γ Ω (tOp rMulS0 ta tb) (S (repS z k.toNat)) := ev_op ha hb fun F H v w s e e' Q q => by
  cases e
  cases e'
  exact ⟨z, k, rfl, rfl, h.1, h.2.1, h.2.2.1, h.2.2.2, q _ F H (Ext.refl _ _ _) s rfl⟩
end
end Y

namespace Y
open PySem L2 PySem.Spec
/-! ## signs of a text -/
theorem occ_sign (y : Str) (k : Nat) : (!(Builtin.Str.occurrences y ⟨#[k]⟩ 0 y.length 1).isEmpty) = decide (k ∈ y.cps.toList) := by
  rcases StrLaws.occ_head y ⟨#[k]⟩ 1 (Nat.le_refl 1) with ⟨h0, hn⟩ | ⟨i, r, h0, hi, hn⟩
  · rw [h0, decide_eq_false (fun hm => by
      obtain ⟨j, hj⟩ := List.getElem?_of_mem hm
      exact hn j ((StrLaws.subAt_one y k j).mpr hj))]
    rfl
  · rw [h0, decide_eq_true (List.mem_of_getElem? ((StrLaws.subAt_one y k i).mp hi))]
    rfl
section
variable {Γ : Gm} {Ω : Om} {K : PySem.W.Frag} {ta tb tl : TE}
theorem ev_inC {k : Nat} {y : Str} (ha : Ev Γ Ω ta (S ⟨#[k]⟩)) (hb : Ev Γ Ω tb (S y)) : Ev Γ Ω (tOp (fun x y H Q => ∃ i j, x = .str i ∧ y = .str j ∧ Q (.bl (!(Builtin.Str.occurrences j i 0 j.length 1).isEmpty)) H) ta tb) (B (decide (k ∈ y.cps.toList))) := ev_op ha hb fun F H x z s e e' Q q => by
  cases e; cases e'
  refine ⟨_, _, rfl, rfl, ?_⟩
  rw [occ_sign]
  exact q _ F H (Ext.refl _ _ _) s rfl
theorem ev_niC {k : Nat} {y : Str} (ha : Ev Γ Ω ta (S ⟨#[k]⟩)) (hb : Ev Γ Ω tb (S y)) : Ev Γ Ω (tOp (fun x y H Q => ∃ i j, x = .str i ∧ y = .str j ∧ Q (.bl (!(!(Builtin.Str.occurrences j i 0 j.length 1).isEmpty))) H) ta tb) (B (!decide (k ∈ y.cps.toList))) := ev_op ha hb fun F H x z s e e' Q q => by
  cases e; cases e'
  refine ⟨_, _, rfl, rfl, ?_⟩
  rw [occ_sign]
  exact q _ F H (Ext.refl _ _ _) s rfl
/-- for c in a text -/
theorem src_s {x : Str} (e : Ev Γ Ω tl (S x)) : Src Γ Ω (iStr tl) x.cps.toList (fun k => S ⟨#[k]⟩) := fun Z F H σ c R q => e Z F H σ c _ fun v F1 H1 c1 s1 rv => by
  cases rv
  refine ⟨x, rfl, q _ F1 H1 c1 s1 fun Z' F2 H2 σ2 Γ2 Ω2 c2 s2 => ?_⟩
  refine ⟨by rw [Array.length_toList]; exact Nat.le_refl _, fun i k hk => ?_⟩
  rw [Array.getElem?_toList] at hk
  refine ⟨(Array.getElem?_eq_some_iff.mp hk).1, fun v H3 hy => ?_⟩
  obtain ⟨e1, k2, e2, e3⟩ := hy
  rw [hk] at e2
  cases e2
  subst e1 e3
  exact ⟨F2, Ext.refl _ _ _, c2.sub, rfl⟩
/-- len(x), x a text that is not too long -/
theorem rc_lenT2 {x : Str} (h : x.length ≤ 100000) : RC (fun xs H Q => ∃ z : Str, xs = [.str z] ∧ z.length ≤ sizeLine ∧ Q (.int z.length) H) [S x] (I (x.length : Int)) := fun F H vs s hv Q q => by
  obtain ⟨v, rfl, e⟩ := hv.one
  cases e
  exact ⟨x, rfl, Nat.le_trans h (by decide), q _ F H (Ext.refl _ _ _) s rfl⟩
end
/-! ## the parts about a sign -/
theorem str_inj {a b : Str} (h : a.cps.toList = b.cps.toList) : a = b := by
  cases a; cases b
  exact congrArg Str.mk (Array.toList_inj.mp h)
theorem cps_app (a b : Str) : (a ++ b).cps.toList = a.cps.toList ++ b.cps.toList := by
  show (a.cps ++ b.cps).toList = _
  rw [Array.toList_append]
theorem len_cps (a : Str) : a.cps.toList.length = a.length := Array.length_toList
/-- partition about one sign -/
theorem part_none {x : Str} {k : Nat} (h : k ∉ x.cps.toList) : Txt.partition x ⟨#[k]⟩ = (x, Str.empty, Str.empty) := by
  unfold Txt.partition
  rcases StrLaws.occ_head x ⟨#[k]⟩ 1 (Nat.le_refl 1) with ⟨h0, hn⟩ | ⟨i, r, h0, hi, hn⟩
  · rw [h0]
  · exact absurd (List.mem_of_getElem? ((StrLaws.subAt_one x k i).mp hi)) h
theorem part_some {x : Str} {k : Nat} (h : k ∈ x.cps.toList) : ∃ a b : Str, Txt.partition x ⟨#[k]⟩ = (a, ⟨#[k]⟩, b) ∧ k ∉ a.cps.toList ∧ x.cps.toList = a.cps.toList ++ k :: b.cps.toList := by
  have hs := StrLaws.partition_sum x ⟨#[k]⟩
  rcases StrLaws.occ_head x ⟨#[k]⟩ 1 (Nat.le_refl 1) with ⟨h0, hn⟩ | ⟨i, r, h0, hi, hn⟩
  · obtain ⟨j, hj⟩ := List.getElem?_of_mem h
    exact absurd ((StrLaws.subAt_one x k j).mpr hj) (hn j)
  · have e : Txt.partition x ⟨#[k]⟩ = (Builtin.Str.strSub x 0 i, ⟨#[k]⟩, Builtin.Str.strSub x (i + 1) x.length) := by
      unfold Txt.partition
      rw [h0]; rfl
    rw [e] at hs
    refine ⟨_, _, e, fun hm => ?_, ?_⟩
    · rw [StrLaws.strSub_toList] at hm
      obtain ⟨j, hj⟩ := List.getElem?_of_mem hm
      have hl := (List.getElem?_eq_some_iff.mp hj).1
      rw [List.drop_zero, List.length_take] at hl
      rw [List.drop_zero, List.getElem?_take_of_lt (by omega)] at hj
      exact hn j (by omega) ((StrLaws.subAt_one x k j).mpr hj)
    · have e2 := congrArg (fun z : Str => z.cps.toList) hs
      dsimp only at e2
      rw [cps_app, cps_app] at e2
      rw [← e2, List.append_assoc]; rfl
end Y

namespace Y
open PySem L2 PySem.Spec
/-! ## a list's item put, things of any number that are owned -/
section
variable {Z : Bs} {F H : Hp} {σ : L2.St} {Γ : Gm} {Ω Ωr O : Om} {K : PySem.W.Frag} {te to ti ta : TE} {t : TA} {R : As} {Rs : List As} {p : Addr} {i j : Nat} {n : L2.St → Hp → Prop} {r : VK} {bk ct : L2.St → Hp → Prop}
/-- l[i] = e, l owned -/
theorem st_lset {x : Int} {k : Nat} (c : Ctx Z F H σ Γ Ω) (e : Ev Γ Ω te R) (h : Ev Γ Ω to (Rf p)) (hm : Ω[j]? = some (p, oL Rs)) (ei : Ev Γ Ω ti (I x)) (hk : ixN Rs.length x = some k) (kk : ∀ F' H', Ctx Z F' H' σ Γ (Ω.set j (p, oL (Rs.set k R))) → n σ H') (hw : Wr Z p) :
    tAsg te (gSub to ti rSetL) ⟨n, r, bk, ct⟩ σ H :=
  e Z F H σ c _ fun v F1 H1 c1 s1 rv => h Z F1 H1 σ c1 _ fun o F2 H2 c2 s2 ro => ei Z F2 H2 σ c2 _ fun y F3 H3 c3 s3 ry => by
    cases ro
    cases ry
    obtain ⟨_, ob, h2, xs, eo, hx⟩ := c3.own _ (List.mem_of_getElem? hm)
    subst eo
    dsimp only at h2
    refine ⟨p, xs, x, k, rfl, rfl, h2, by rw [hx.length]; exact hk, kk F3 _ (c3.chg hm ⟨_, rfl, ?_⟩ hw)⟩
    have rv3 : R.p F3 v := R.mono (s2.trans s3).fe rv
    refine All.of_get (by rw [List.length_set, List.length_set]; exact hx.length) fun m S z h1 h3 => ?_
    by_cases hmk : k = m
    · subst hmk
      have l1 := (List.getElem?_eq_some_iff.mp h1).1
      have l2 := (List.getElem?_eq_some_iff.mp h3).1
      rw [List.length_set] at l1 l2
      rw [List.getElem?_set_self l1] at h1
      rw [List.getElem?_set_self l2] at h3
      cases h1; cases h3
      exact rv3
    · rw [List.getElem?_set_ne hmk] at h1 h3
      obtain ⟨z', e1, e2⟩ := hx.get h1
      rw [e1] at h3
      cases h3
      exact e2
theorem peek_ctx (c : Ctx Z F H σ Γ Ω) (hm : Ω[j]? = some (p, oL Rs)) (hi : Γ[i]? = some (some (Rf p))) : ∃ (F1 : Hp) (Z1 : Bs), Ctx Z1 F1 H σ (Γ.set i (some (Ls K Rs))) (Ω.eraseIdx j) ∧ Same F F1 ∧
    ∀ F3 H3, Ext [] F1 H F3 H3 → Same F3 H3 → Ext [] F H (minus F3 p) H3 ∧ Same (minus F3 p) H3 ∧ ∃ xs, F3 p = some (.lst xs) := by
  obtain ⟨h1, o, h2, xs, eo, hx⟩ := c.own _ (List.mem_of_getElem? hm)
  subst eo
  dsimp only at h1 h2
  have s : Same F (upd F p (.lst xs)) := fun a u z => by rw [upd_ne (ne_of_none z h1)]; exact z
  have hsub : Same (upd F p (.lst xs)) H := fun a u z => by
    by_cases e : a = p
    · rw [e] at z ⊢; rw [upd_same] at z; rw [← z]; exact h2
    · rw [upd_ne e] at z; exact c.sub a u z
  have other : ∀ x ∈ Ω.eraseIdx j, x ∈ Ω ∧ x.1 ≠ p := fun x hx => by
    have hx' := List.mem_of_mem_eraseIdx hx
    refine ⟨hx', fun z => ?_⟩
    obtain ⟨k, hk⟩ := List.getElem?_of_mem hx
    rw [List.getElem?_eraseIdx] at hk
    split at hk
    · have a1 : (Ω.map (·.1))[k]? = some p := by rw [List.getElem?_map, hk, ← z]; rfl
      have a2 : (Ω.map (·.1))[j]? = some p := by rw [List.getElem?_map, hm]; rfl
      have := nd_ix c.nd a1 a2
      omega
    · have a1 : (Ω.map (·.1))[k + 1]? = some p := by rw [List.getElem?_map, hk, ← z]; rfl
      have a2 : (Ω.map (·.1))[j]? = some p := by rw [List.getElem?_map, hm]; rfl
      have := nd_ix c.nd a1 a2
      omega
  refine ⟨upd F p (.lst xs), ⟨upd F p (.lst xs), H, [], upd F p (.lst xs), (Ω.eraseIdx j).map (·.1)⟩, ?_, s, fun F3 H3 e3 s3 => ?_⟩
  · refine ⟨?_, hsub, fun x hx => ?_, ((List.eraseIdx_sublist Ω j).map _).nodup c.nd, fun x hx => .inr (.inr (List.mem_map.mpr ⟨x, hx, rfl⟩)), Ext.refl _ _ _, Same.refl _⟩
    · obtain ⟨v, e1, e2⟩ := (c.sat.mono s).get hi
      have e2 : v = .ref p := e2
      subst e2
      have z := (c.sat.mono s).set (R := Ls K Rs) (v := .ref p) ⟨p, xs, rfl, SqL.of upd_same, hx.mono s⟩ i
      rw [set_same e1] at z
      exact z
    · obtain ⟨hx1, hx2⟩ := other x hx
      obtain ⟨k1, o', k2, k3⟩ := c.own x hx1
      exact ⟨by rw [upd_ne hx2]; exact k1, o', k2, x.2.mono s k3⟩
  · have hp3 : F3 p = some (.lst xs) := e3.fe p _ upd_same
    refine ⟨⟨fun a u z => minus_get (e3.fe a u (s a u z)) (ne_of_none z h1), e3.fr, e3.dm, fun a g1 g2 => ?_⟩, fun a u z => ?_, xs, hp3⟩
    · unfold minus
      by_cases w : a = p
      · rw [if_pos w]
      · rw [if_neg w]
        exact e3.nw a g1 (by rw [upd_ne w]; exact g2)
    · unfold minus at z
      by_cases w : a = p
      · rw [if_pos w] at z; cases z
      · rw [if_neg w] at z; exact s3 a u z
/-- an owned list read as a frozen one by an expression whose value has no lists in it -/
theorem ev_peekI (hm : Ω[j]? = some (p, oL Rs)) (hi : Γ[i]? = some (some (Rf p))) (h : Ev (Γ.set i (some (Ls K Rs))) (Ω.eraseIdx j) te R) (hR : Ind0 R) : Ev Γ Ω te R := fun Z F H σ c Q q => by
  obtain ⟨F1, Z1, c1, s1, back⟩ := peek_ctx (K := K) c hm hi
  refine h Z1 F1 H σ c1 Q fun v F3 H3 c3 e3 rv => ?_
  obtain ⟨e4, s4, xs, hp3⟩ := back F3 H3 e3 c3.sub
  exact q v _ H3 (c.step e4 s4) e4 (hR F3 p xs v hp3 rv)
/-- something new that is made from an owned list, read as a frozen one -/
theorem nw_peek {A : OA} (hm : Ω[j]? = some (p, oL Rs)) (hi : Γ[i]? = some (some (Rf p))) (h : EvNw (Γ.set i (some (Ls K Rs))) (Ω.eraseIdx j) te A) (hA : IndO A) : EvNw Γ Ω te A := fun Z F H σ c Q q => by
  obtain ⟨F1, Z1, c1, s1, back⟩ := peek_ctx (K := K) c hm hi
  refine h Z1 F1 H σ c1 Q fun v F3 H3 c3 e3 hn => ?_
  obtain ⟨e4, s4, xs, hp3⟩ := back F3 H3 e3 c3.sub
  obtain ⟨k1, o, k2, k3⟩ := c3.own _ List.mem_cons_self
  dsimp only at k1 k2
  refine q v _ H3 (c.add e4 s4 (fun x hx => ?_) hn) e4 hn
  rw [List.mem_singleton.mp hx]
  refine ⟨?_, o, k2, hA F3 p xs o hp3 k3⟩
  show minus F3 p v = none
  unfold minus
  split
  · rfl
  · exact k1
/-- all that is new, frozen at once -/
theorem frz_new {F1 H1 F3 H3 : Hp} (e : Ext [] F1 H1 F3 H3) (s : Same F3 H3) (ow : Own F3 H3 O) (hn : ∀ x ∈ O.map (·.1), H1 x = none) : ∃ F4, Same F3 F4 ∧ Same F4 H3 ∧ Ext [] F1 H1 F4 H3 ∧ ∀ x ∈ O, ∃ o, F4 x.1 = some o ∧ x.2.p F4 o := by
  have s34 : Same F3 (fun a => if a ∈ O.map (·.1) then H3 a else F3 a) := fun a u z => by
    show (if a ∈ O.map (·.1) then H3 a else F3 a) = some u
    split
    · exact s a u z
    · exact z
  refine ⟨fun a => if a ∈ O.map (·.1) then H3 a else F3 a, s34, fun a u z => ?_, ⟨e.fe.trans s34, e.fr, e.dm, fun a g1 g2 => ?_⟩, fun x hx => ?_⟩
  · have z : (if a ∈ O.map (·.1) then H3 a else F3 a) = some u := z
    split at z
    · exact z
    · exact s a u z
  · show (if a ∈ O.map (·.1) then H3 a else F3 a) = none
    split
    · rename_i hm
      exact absurd (hn a hm) g1
    · exact e.nw a g1 g2
  · obtain ⟨_, o, h2, h3⟩ := ow x hx
    refine ⟨o, ?_, x.2.mono s34 h3⟩
    show (if x.1 ∈ O.map (·.1) then H3 x.1 else F3 x.1) = some o
    rw [if_pos (List.mem_map.mpr ⟨x, hx, rfl⟩)]
    exact h2
/-- f(e, ..), f hands out new things: all frozen at once -/
theorem ev_callGF {α β : Type} {args : α → List As} {pre : α → Prop} {post : α → β → Prop} {res : α → β → As} {Oo : α → β → Om} {E : XK} (a : α) (h : EvA Γ Ω t (args a)) (hp : pre a)
    (hf : ∀ b F F' v, post a b → (res a b).p F v → Same F F' → (∀ x ∈ Oo a b, ∃ o, F' x.1 = some o ∧ x.2.p F' o) → R.p F' v) : Ev Γ Ω (tCall (CtG args (fun _ => []) pre post res Oo) [] E t) R := fun Z F H σ c Q q =>
  h Z F H σ c _ fun vs F1 H1 c1 s1 rs => ⟨a, F1, c1.sub, by rw [List.append_nil]; exact rs, fun y hy => absurd hy List.not_mem_nil, List.nodup_nil, hp, fun b v F3 H3 hb e3 s3 rv ow nd hn => by
    obtain ⟨F4, s34, s4, e4, fr⟩ := frz_new e3 s3 ow (fun x hx => (hn x hx).elim (fun z => absurd z List.not_mem_nil) id)
    exact q v F4 H3 (c1.step e4 s4) (s1.trans e4) (hf b F3 F4 v hb rv s34 fr)⟩
end
end Y

namespace Y
open PySem L2 PySem.Spec
open PyProof.Rows
/-! ## own exceptions held as values -/
def tMkV (C : Addr) (sp : Sp) (ta : TA) : TE := fun σ H Q => ta σ H fun vs H1 => vs.length ≤ 1000 ∧ ∀ a, H1 a = none → sp (.ref a :: vs) (upd H1 a (exo a C none)) (fun v H2 => v = .non ∧ Q (.ref a) H2) (fun _ _ _ => False)
section
variable {X : Cx} {C : Addr} {x qual : Str} {st : Stmt} {ps : List Str} {sp : Sp} {k : Nat} {p pos : Pos} {e : Expr} {es : List Expr} {ta : TA} {te : TE}
theorem pe_mkV0 {CX : CXT} {fI : Addr} {fd : FuncData} (T : OexC X.K C) (iC : PySem.W.findIn X.K (.ref C) "__init__" = some (some (.ref fI))) (tI : PySem.W.typeIn X.K (.ref fI) = some (.type "function"))
    (F1 : FnOk X.prog X.w X.K X.mg X.base CX k fI fd ps sp) (hr : Room (k + 1) X.A) (hb : Binds X.K fd ps []) (hx : Passes CX X (fun _ _ _ => False)) (hg : Gl X x) (hm : X.mg x = some (.ref C)) (ha : PA X (e :: es) ta)
    (hdb : (x == ("__debug__" : Str)) = false := by decide) (he : starEach (e :: es) X.env = (false, eval e X.env) :: starEach es X.env := by rfl) (hpl : (backTo pos (starEach es X.env)).any (·.1) = false := by rfl) :
    PE X (.Call (.Name x p) (e :: es) [] pos) (tMkV C sp ta) := by
  refine ⟨fun pins s σ H Q I h => ?_⟩
  obtain ⟨nm, q, N, bs, bm, sn, sub, ab, col, dd, k0, k1, k2, k3, k5, hC, hbm⟩ := T.cls
  refine wpAny_Call_Name_kw (ld_glob I hg hm ?_ hdb)
  refine PySem.W.callWith_K (h₀ := X.base) I.ok.mod.kin T.kC (thn (ha.run pos pins s σ H _ I h) fun us s1 ⟨vs, H1, I1, r1, hz, q1⟩ => ⟨I1.kIn, ?_⟩) he hpl
  show wpAny _ _ (call (.ref C) us) _ _ _
  obtain ⟨hp, g, dr, tk, os⟩ := s1
  have hsz : hp.objs.size ≤ hp.objs.size + 1 := Nat.le_succ _
  have hn : H1 (hp.objs.size + 1) = none := I1.hok.fresh hsz
  have hq := q1 (hp.objs.size + 1) hn
  have kk : ∀ b o, hp.get? b = some o → ((hp.push (PySem.W.kdv_tup us)).push (PySem.HandSPX.excO C hp.objs.size)).get? b = some o := fun b o e => Heap.get?_push_of_some _ (Heap.get?_push_of_some _ e)
  have hget : ((hp.push (PySem.W.kdv_tup us)).push (PySem.HandSPX.excO C hp.objs.size)).get? (hp.objs.size + 1) = some (PySem.HandSPX.excO C hp.objs.size) := by heap_get
  have I2 := I1.laid (t' := tk) (a := hp.objs.size + 1) (o := exo (hp.objs.size + 1) C none) (h' := (hp.push (PySem.W.kdv_tup us)).push (PySem.HandSPX.excO C hp.objs.size)) kk hsz (exo_ok hget)
  have r2 : Vals (V.ref (hp.objs.size + 1) :: vs) (Value.ref (hp.objs.size + 1) :: us) := .cons rfl r1
  have hl : (Value.ref (hp.objs.size + 1) :: us ++ []).length = ps.length := by
    have e := r2.length
    rw [F1.len _ _ _ _ hq] at e
    rw [List.append_nil]
    exact e.symm
  have hus : us.length ≤ sizeLine := by
    rw [← PySem.Paired.length r1, sizeLine_eq]
    omega
  have b2 := hb _ (Value.ref (hp.objs.size + 1) :: us) I2.kIn hl
  rw [List.append_nil] at b2
  refine wpAny_call (PySem.HandSPX.call_own PySem.F.excBase_ValueError (fun Y => PySem.HandSPX.refsVE_contains Y bm hbm) (I1.kIn _ _ hC) (PySem.W.looks_findIn I1.kIn iC) (fun self => PySem.W.bind_fn I1.kIn self tI) hus
    (codeAny_mono (F1.run _ X.stack _ _ ⟨Value.ref (hp.objs.size + 1) :: us, []⟩ (Value.ref (hp.objs.size + 1) :: us) _ _ (fun _ _ _ => False) (hr.make C us []) (I2.env0.make C us []) b2 r2 hq) fun r s' hq' => ?_))
  cases r with
  | error er => exact hx pins σ _ _ er s' I2 hq'
  | ok fl =>
    cases fl with
    | ret u =>
      obtain ⟨v, H', I3, rv, ev, q3⟩ := I2.after hq'
      subst ev
      exact ⟨rv, ⟨V.ref (hp.objs.size + 1), H', I3, rfl, q3⟩⟩
    | next => exact False.elim hq'
    | brk => exact False.elim hq'
    | cont => exact False.elim hq'
theorem pe_mkV (T : Te X.K X.mg C x qual st ps) (D : De X.prog X.w X.K X.mg X.base k C ps sp) (hr : Room (k + 1) X.A) (hg : Gl X x) (ha : PA X (e :: es) ta)
    (hdb : (x == ("__debug__" : Str)) = false := by decide) (he : starEach (e :: es) X.env = (false, eval e X.env) :: starEach es X.env := by rfl) (hpl : (backTo pos (starEach es X.env)).any (·.1) = false := by rfl) :
    PE X (.Call (.Name x p) (e :: es) [] pos) (tMkV C sp ta) := by
  obtain ⟨f, fd, hi, ht, b, G⟩ := D.ex
  refine pe_mkV0 T.ox hi ht G hr b (fun pins σ H s e s' _ h => ?_) hg T.g ha hdb he hpl
  obtain ⟨_, _, _, _, _, _, _, _, _, _, _, _, z⟩ := h
  exact z.elim
theorem exv_inst {pins : List (Addr × Obj)} {s : Shared} {σ : L2.St} {H : Hp} {a dx : Addr} {fs : List (Str × V)} (I : L2.Inv X pins σ H s) (ea : H a = some (exo a C (some dx))) (ed : H dx = some (exd dx fs)) :
    ∃ (oe od : Obj) (mA : Str → Option Value), PySem.W.InstAt s.heap a oe C (some od) ∧ (∀ name, PySem.W.lookIn name od = some (mA name)) ∧ ∀ f, RelO (fs.lookup f) (mA f) := by
  obtain ⟨t0, hoe⟩ := exo_at I.hok ea
  obtain ⟨mA, hns, rel⟩ := exd_at I.hok ed
  obtain ⟨od, ho, hl⟩ := lookIn_ns hns
  exact ⟨_, od, mA, ⟨hoe, rfl, rfl, ho⟩, hl, rel⟩
def tXv (C : Addr) (n : Str) (te : TE) : TE := fun σ H Q => te σ H fun x H1 => ∃ (a dx : Addr) (fs : List (Str × V)) (v : V), x = .ref a ∧ H1 a = some (exo a C (some dx)) ∧ H1 dx = some (exd dx fs) ∧ fs.lookup n = some v ∧ Q v H1
/-- e.f, e an own exception -/
theorem pe_xv {n : Str} (T : XfC X.K C) (hno : PySem.W.findIn X.K (.ref C) n = some none) (he : PE X e te) (hb : attributeBase e n X.env (eval e X.env) = eval e X.env := by rfl) : PE X (.Attribute e n pos) (tXv C n te) := by
  refine ⟨fun pins s σ H Q I h => ?_⟩
  refine attr_of hb (thn (he.run pins s σ H _ I h) fun u s1 hh => ?_)
  obtain ⟨x, H1, I1, rx, a, dx, fs, v, ex, ea, ed, l, q⟩ := hh
  subst ex
  obtain rfl : u = Value.ref a := rx
  obtain ⟨oe, od, mA, J, hl, hr⟩ := exv_inst I1 ea ed
  obtain ⟨u, hu, ru⟩ := RelO.some_of (v := v) (o := mA n) (by rw [← l]; exact hr n)
  exact HandSPX.exc_get I1.kIn J T.ga T.gg T.exC (PySem.W.findObj_own T.hdC hno rfl (by rw [hl, hu])) (handed_of ru) ⟨v, H1, I1.tok _, ru, q⟩
/-- isinstance(e, c), e an own exception of some class -/
def rIsV (K : PySem.W.Frag) : List V → Hp → VK → Prop := fun xs H Q => ∃ (a D dx : Addr) (fs : List (Str × V)) (c : V) (cv : Value) (b : Bool), xs = [.ref a, c] ∧ H a = some (exo a D (some dx)) ∧ H dx = some (exd dx fs) ∧ ExcC K D ∧ (∀ u, RelV c u → u = cv) ∧ PySem.W.kitOne K (.ref D) cv = some b ∧ Q (.bl b) H
theorem call_isV : CallR X (.builtin "isinstance") (rIsV X.K) := by
  intro pins s σ H xs us Q I r h
  obtain ⟨a, D, dx, fs, c, cv, b, rfl, ea, ed, C, hcv, e, q⟩ := h
  obtain ⟨u1, u2, rfl, r1, r2⟩ := vals2 r
  cases (show u1 = Value.ref a from r1)
  have ec := hcv _ r2
  subst ec
  obtain ⟨oe, od, mA, J, _⟩ := exv_inst I ea ed
  exact PySem.W.kia_one (PySem.W.kitx_excD C.hg C.hk C.hs C.hd C.ha C.hn C.ht C.hm) I.kIn J e (fun z => nomatch z) fun tk => ⟨.bl b, H, I.kept (t' := tk) fun _ _ z => z, rfl, q⟩
end
/-- an own exception, its fields -/
def Ex (D : Addr) (fs : List (Str × As)) : As := ⟨fun F v => ∃ (a dx : Addr) (vs : List (Str × V)), v = .ref a ∧ F a = some (exo a D (some dx)) ∧ F dx = some (exd dx vs) ∧ AllF F fs vs, fun s h => by
  obtain ⟨a, dx, vs, e, h1, h2, h3⟩ := h
  exact ⟨a, dx, vs, e, s _ _ h1, s _ _ h2, h3.mono s⟩⟩
section
variable {Γ : Gm} {Ω : Om} {K : PySem.W.Frag} {ta : TA} {te : TE} {R R2 : As} {C D : Addr} {f g : Str} {fs : List (Str × As)}
theorem ev_mkV1 (ox : OexC K C) (hn : PySem.W.findIn K (.ref C) f = some none) (e : EvA Γ Ω ta [R]) : Ev Γ Ω (tMkV C (spX1 K C f) ta) (Ex C [(f, R)]) := fun Z F H σ c Q q =>
  e Z F H σ c _ fun vs F1 H1 c1 s1 rs => by
    obtain ⟨v, rfl, rv⟩ := rs.one
    refine ⟨by show 1 ≤ 1000; decide, fun a ha => ⟨a, v, rfl, ox, hn, upd_same, fun d hd hne => ⟨rfl, ?_⟩⟩⟩
    rw [upd_ne hne] at hd
    have eH : upd (upd (upd H1 a (exo a C none)) d (exd d [(f, v)])) a (exo a C (some d)) = upd (upd H1 d (exd d [(f, v)])) a (exo a C (some d)) := by
      funext b
      unfold upd
      by_cases h1 : b = a
      · rw [if_pos h1, if_pos h1]
      · rw [if_neg h1, if_neg h1, if_neg h1]
    rw [eH]
    obtain ⟨e1, s2⟩ := Ext.new (o := exd d [(f, v)]) c1.sub hd
    obtain ⟨e2, s3⟩ := Ext.new (p := a) (o := exo a C (some d)) s2 (by rw [upd_ne (Ne.symm hne)]; exact ha)
    refine q _ _ _ (c1.step (e1.trans e2) s3) (s1.trans (e1.trans e2)) ⟨a, d, [(f, v)], rfl, upd_same, ?_, rfl, R.mono (e1.trans e2).fe rv, trivial⟩
    rw [upd_ne hne]; exact upd_same
theorem ev_mkV2 (ox : OexC K C) (hn : PySem.W.findIn K (.ref C) f = some none) (hn2 : PySem.W.findIn K (.ref C) g = some none) (e : EvA Γ Ω ta [R, R2]) : Ev Γ Ω (tMkV C (spX2 K C f g) ta) (Ex C [(g, R2), (f, R)]) := fun Z F H σ c Q q =>
  e Z F H σ c _ fun vs F1 H1 c1 s1 rs => by
    obtain ⟨v, u, rfl, rv, ru⟩ := rs.two
    refine ⟨by show 2 ≤ 1000; decide, fun a ha => ⟨a, v, u, rfl, ox, hn, hn2, upd_same, fun d hd hne => ⟨rfl, ?_⟩⟩⟩
    rw [upd_ne hne] at hd
    have eH : upd (upd (upd (upd H1 a (exo a C none)) d (exd d [(f, v)])) a (exo a C (some d))) d (exd d [(g, u), (f, v)]) = upd (upd H1 d (exd d [(g, u), (f, v)])) a (exo a C (some d)) := by
      funext b
      unfold upd
      by_cases h1 : b = a
      · rw [if_neg (fun z => hne (z.symm.trans h1)), if_pos h1, if_pos h1]
      · rw [if_neg h1, if_neg h1, if_neg h1]
        by_cases h2 : b = d
        · rw [if_pos h2, if_pos h2]
        · rw [if_neg h2, if_neg h2, if_neg h2]
    rw [eH]
    obtain ⟨e1, s2⟩ := Ext.new (o := exd d [(g, u), (f, v)]) c1.sub hd
    obtain ⟨e2, s3⟩ := Ext.new (p := a) (o := exo a C (some d)) s2 (by rw [upd_ne (Ne.symm hne)]; exact ha)
    refine q _ _ _ (c1.step (e1.trans e2) s3) (s1.trans (e1.trans e2)) ⟨a, d, [(g, u), (f, v)], rfl, upd_same, ?_, rfl, R2.mono (e1.trans e2).fe ru, rfl, R.mono (e1.trans e2).fe rv, trivial⟩
    rw [upd_ne hne]; exact upd_same
theorem ev_xv (h : Ev Γ Ω te (Ex D fs)) (hl : fs.lookup f = some R) : Ev Γ Ω (tXv D f te) R := fun Z F H σ c Q q => h Z F H σ c _ fun v F1 H1 c1 s1 ⟨a, dx, vs, e, h1, h2, h3⟩ => by
  subst e
  obtain ⟨w, e1, e2⟩ := h3.get hl
  exact ⟨a, dx, vs, w, rfl, c1.sub _ _ h1, c1.sub _ _ h2, e1, q w F1 H1 c1 s1 e2⟩
theorem rc_isV {c : V} {cv : Value} {b : Bool} (hX : ExcC K D) (hc : ClsV c cv) (hk : PySem.W.kitOne K (.ref D) cv = some b) : RC (rIsV K) [Ex D fs, Cst c] (B b) := fun F H vs s hv Q q => by
  obtain ⟨v, w, rfl, rv, rw'⟩ := hv.two
  obtain ⟨a, dx, us, e, h1, h2, h3⟩ := rv
  have rw' : w = c := rw'
  subst e rw'
  exact ⟨a, D, dx, us, w, cv, b, rfl, s _ _ h1, s _ _ h2, hX, fun u hu => hc.eq hu, hk, q _ F H (Ext.refl _ _ _) s rfl⟩
end
end Y

namespace Y
open PySem L2 PySem.Spec
open PyProof.Rows
/-! ## methods with one default that is None, __init__ with one default that is a text -/
structure TmG (K : PySem.W.Frag) (C : Addr) (m qual : Str) (st : Stmt) (ps : List Str) : Prop where
  ex : ∃ f fd ds, FunD K m qual (defArgs st) (defBody st) (defScope st) [.non] [] f fd ∧ Meth K C m f ∧ Binds K fd ps [] ∧ Vals [V.non] ds ∧ Binds K fd ps ds
structure DmG (P : Program) (w : World) (K : PySem.W.Frag) (mg : Str → Option Value) (base : Heap) (k : Nat) (C : Addr) (m : Str) (ps : List Str) (sp : Sp) : Prop where
  dm : Dm P w K mg base k C m ps sp
  ex : ∃ f fd ds, Meth K C m f ∧ Vals [V.non] ds ∧ Binds K fd ps ds ∧ FnOk P w K mg base (L2N.CX P w) k f fd ps sp
section
variable {P : Program} {w : World} {K : PySem.W.Frag} {mg : Str → Option Value} {base : Heap} {C : Addr} {m qual : Str} {st : Stmt} {N ps : List Str} {k : Nat} {sp : Sp} {dvs : List V}
theorem TmG.okX (T : TmG K C m qual st ps) (S : FnScope N ps (defScope st)) (len : ∀ vs H Q E, sp vs H Q E → vs.length = ps.length)
    (hbody : ∀ (f : Addr) (cdv : Value) (A : Around) (outer : List Env) (s : Shared) (H : Hp) (vs : List V) (Q : VK) (E : XK), Room k (A.deeper (envOfC qual (defScope st) s.heap.objs.size f cdv)) → sp vs H Q E →
      ∃ t, PSs (cxOf (L2N.CX P w) P w K mg base N qual (defScope st) f cdv A outer s H E) (defBody st) t ∧ t { nx := fun _ H' => Q .non H', rt := Q } (L2.start N vs) H) : DmG P w K mg base (k + 1) C m ps sp := by
  obtain ⟨f, fd, ds, F, hm, b0, hv, b1⟩ := T.ex
  have G := F.ok (CX := L2N.CX P w) S len (hbody f)
  exact ⟨⟨f, fd, hm, b0, G⟩, f, fd, ds, hm, hv, b1, G⟩
theorem tm_mkG {f T : Addr} {o1 : Value} {o2 : Option Addr} {o4 : Array (Option Value)} {nn : Nat} {oc : Value} {od an : Option Addr} {osl : Array (Option Value)} {kV doc pm cdv ct : Value} {n : Nat} (a : PySem.W.findIn K (.ref C) m = some (some (.ref f))) (i : PySem.W.isFn K (.ref f) = true)
    (l : K.lookup f = some ⟨oc, od, .func (PySem.W.fnOf m qual (defArgs st) (defBody st) (defScope st) (.ref T) kV doc pm an cdv ct), osl⟩) (c : PySem.W.codeIn K cdv qual = true) (kk : PySem.W.keepIn K (.ref f) = true) (lT : K.lookup T = some ⟨o1, o2, .seq #[.none] nn, o4⟩)
    (hb : ∀ (T : Addr) (kV doc pm : Value) (an : Option Addr) (cdv ct : Value) (us its : List Value), us.length = ps.length → its.length = 1 →
      ∃ k, bindArgs (PySem.W.fnOf m qual (defArgs st) (defBody st) (defScope st) (.ref T) kV doc pm an cdv ct) ⟨us, []⟩ = seqItems? (.ref T) >>= k ∧ k (some its.toArray) = pure (ps.zip (us ++ its.drop 1)))
    (hn : n + 1 = ps.length)
    (hb1 : ∀ (T : Addr) (kV doc pm : Value) (an : Option Addr) (cdv ct : Value) (us its : List Value), us.length = n → its.length = 1 →
      ∃ k, bindArgs (PySem.W.fnOf m qual (defArgs st) (defBody st) (defScope st) (.ref T) kV doc pm an cdv ct) ⟨us, []⟩ = seqItems? (.ref T) >>= k ∧ k (some its.toArray) = pure (ps.zip (us ++ its.drop 0))) : TmG K C m qual st ps := by
  have F : FunD K m qual (defArgs st) (defBody st) (defScope st) [.non] [] f (PySem.W.fnOf m qual (defArgs st) (defBody st) (defScope st) (.ref T) kV doc pm an cdv ct) :=
    ⟨⟨oc, od, .ref T, kV, doc, pm, an, cdv, ct, osl, rfl, l, c, .inr ⟨(fun z => by cases z), T, _, [.none], nn, rfl, lT, rfl, .cons rfl .nil⟩, .inl rfl⟩, kk⟩
  obtain ⟨ds, hv, b⟩ := F.binds1 (ps := ps) ps.length 1 (fun z => by cases z) rfl hb
  have e : ds = [] := by cases hv; rfl
  rw [e] at b
  obtain ⟨ds1, hv1, b1⟩ := F.binds1 (ps := ps) n 0 (fun z => by cases z) hn hb1
  exact ⟨f, _, ds1, F, ⟨a, i, kk⟩, b, hv1, b1⟩
/-- __init__ with one default that is a text, left out -/
theorem ti_mk1s {f T : Addr} {d : Str} {tk : Tok} {o1 : Value} {o2 : Option Addr} {o4 : Array (Option Value)} {nn : Nat} {oc : Value} {od an : Option Addr} {osl : Array (Option Value)} {kV doc pm cdv ct : Value} {n : Nat} (a : PySem.W.findIn K (.ref C) "__init__" = some (some (.ref f))) (i : PySem.W.isFn K (.ref f) = true)
    (l : K.lookup f = some ⟨oc, od, .func (PySem.W.fnOf "__init__" qual (defArgs st) (defBody st) (defScope st) (.ref T) kV doc pm an cdv ct), osl⟩) (c : PySem.W.codeIn K cdv qual = true) (kk : PySem.W.keepIn K (.ref f) = true)
    (mk : PySem.W.makesIn K C = true) (kc : PySem.W.keepIn K (.ref C) = true) (lT : K.lookup T = some ⟨o1, o2, .seq #[.str d tk] nn, o4⟩) (hn : n + 1 = ps.length)
    (hb : ∀ (T : Addr) (kV doc pm : Value) (an : Option Addr) (cdv ct : Value) (us its : List Value), us.length = n → its.length = 1 →
      ∃ k, bindArgs (PySem.W.fnOf "__init__" qual (defArgs st) (defBody st) (defScope st) (.ref T) kV doc pm an cdv ct) ⟨us, []⟩ = seqItems? (.ref T) >>= k ∧ k (some its.toArray) = pure (ps.zip (us ++ its.drop 0))) : Ti K C qual st ps [.str d] := by
  have F : FunD K "__init__" qual (defArgs st) (defBody st) (defScope st) [.str d] [] f (PySem.W.fnOf "__init__" qual (defArgs st) (defBody st) (defScope st) (.ref T) kV doc pm an cdv ct) :=
    ⟨⟨oc, od, .ref T, kV, doc, pm, an, cdv, ct, osl, rfl, l, c, .inr ⟨(fun z => by cases z), T, _, [.str d tk], nn, rfl, lT, rfl, .cons ⟨tk, rfl⟩ .nil⟩, .inl rfl⟩, kk⟩
  obtain ⟨ds, hv, b⟩ := F.binds1 (ps := ps) n 0 (fun z => by cases z) hn hb
  exact ⟨f, _, ds, _, ⟨mk, a, i, kc⟩, F, hv, b⟩
/-- .. which the call gives -/
theorem ti_mk1sf {f T : Addr} {d : Str} {tk : Tok} {o1 : Value} {o2 : Option Addr} {o4 : Array (Option Value)} {nn : Nat} {oc : Value} {od an : Option Addr} {osl : Array (Option Value)} {kV doc pm cdv ct : Value} (a : PySem.W.findIn K (.ref C) "__init__" = some (some (.ref f))) (i : PySem.W.isFn K (.ref f) = true)
    (l : K.lookup f = some ⟨oc, od, .func (PySem.W.fnOf "__init__" qual (defArgs st) (defBody st) (defScope st) (.ref T) kV doc pm an cdv ct), osl⟩) (c : PySem.W.codeIn K cdv qual = true) (kk : PySem.W.keepIn K (.ref f) = true)
    (mk : PySem.W.makesIn K C = true) (kc : PySem.W.keepIn K (.ref C) = true) (lT : K.lookup T = some ⟨o1, o2, .seq #[.str d tk] nn, o4⟩)
    (hb : ∀ (T : Addr) (kV doc pm : Value) (an : Option Addr) (cdv ct : Value) (us its : List Value), us.length = ps.length → its.length = 1 →
      ∃ k, bindArgs (PySem.W.fnOf "__init__" qual (defArgs st) (defBody st) (defScope st) (.ref T) kV doc pm an cdv ct) ⟨us, []⟩ = seqItems? (.ref T) >>= k ∧ k (some its.toArray) = pure (ps.zip (us ++ its.drop 1))) : Ti K C qual st ps [] := by
  have F : FunD K "__init__" qual (defArgs st) (defBody st) (defScope st) [.str d] [] f (PySem.W.fnOf "__init__" qual (defArgs st) (defBody st) (defScope st) (.ref T) kV doc pm an cdv ct) :=
    ⟨⟨oc, od, .ref T, kV, doc, pm, an, cdv, ct, osl, rfl, l, c, .inr ⟨(fun z => by cases z), T, _, [.str d tk], nn, rfl, lT, rfl, .cons ⟨tk, rfl⟩ .nil⟩, .inl rfl⟩, kk⟩
  obtain ⟨ds, hv, b⟩ := F.binds1 (ps := ps) ps.length 1 (fun z => by cases z) rfl hb
  exact ⟨f, _, ds, _, ⟨mk, a, i, kc⟩, F, hv, b⟩
end
section
variable {X : Cx} {C : Addr} {m : Str} {ps : List Str} {sp : Sp} {k : Nat} {pos apos : Pos} {e o : Expr} {es : List Expr} {t : TA} {ta : TE} {W : WX}
/-- o.m(..), its default left out, in a try or a def that lets the error out -/
theorem pe_dmSG {pl : Sem Bool} (tk : Takes X W) (he : PE X o ta) (c : Cls X.K C) (D : DmG X.prog X.w X.K X.mg X.base k C m ps sp) (hr : Room k X.A) (ha : PA X (e :: es) t)
    (hst : starEach (e :: es) X.env = (false, eval e X.env) :: starEach es X.env := by rfl) (hpl : (backTo pos (starEach es X.env)).any (·.1) = false := by rfl)
    (ht : eval (.Call (.Attribute o m apos) (e :: es) [] pos) X.env = (do
      let ov ← eval o X.env
      standAt apos.atName
      let (f, first) ← holding [ov] (getMethod ov m pl)
      callWith pos f first (backTo pos (starEach (e :: es) X.env)) (backToKw pos (keywordEach [] X.env))) := by rfl) :
    PE X (.Call (.Attribute o m apos) (e :: es) [] pos) (tMethX C m (fun vs => sp (vs ++ [.non])) (WE W) ta t) := by
  obtain ⟨f, fd, ds, hm, hv, b, G⟩ := D.ex
  refine ⟨fun pins s σ H Q I h => ?_⟩
  refine PySem.W.methodCall_KW (pl := pl) (thn (he.run pins s σ H _ I h) fun u s1 ⟨x, H1, I1, rx, a, dx, fs, ex, ea, l, q⟩ => ?_) ht
  subst ex
  obtain rfl : u = Value.ref a := rx
  refine getmeth_ok I1 ea c hm l ?_
  refine PySem.W.callWith_K (first := [.ref a]) (h₀ := X.base) I.ok.mod.kin hm.kp (thn (ha.run pos pins s1 σ H1 _ I1 q) fun us s2 ⟨vs, H2, I2, r, q2⟩ => ⟨I2.kIn, ?_⟩) hst hpl
  exact run_fnSD (us := .ref a :: us) (vs := .ref a :: vs) G hr b hv (L2N.passAt tk σ) I2 (.cons rfl r) q2
end
/-! ## min(xs, default=None), xs a list of ints -/
def minO : List Int → Option Int
  | [] => none
  | y :: ys => some (ys.foldl min y)
def voI : Option Int → V
  | none => .non
  | some i => .int i
theorem foldl_min (ys : List Int) : ∀ y : Int, ys.foldl (fun a y => if decide (y < a) = true then y else a) y = ys.foldl min y := by
  induction ys with
  | nil => intro y; rfl
  | cons x xs ih =>
    intro y
    rw [List.foldl_cons, List.foldl_cons, ih]
    congr 1
    by_cases h : x < y
    · rw [if_pos (by simpa using h)]; omega
    · rw [if_neg (by simpa using h)]; omega
theorem foldl_min_le (ys : List Int) : ∀ y : Int, ys.foldl min y ≤ y ∧ ∀ z ∈ ys, ys.foldl min y ≤ z := by
  induction ys with
  | nil => intro y; exact ⟨Int.le_refl _, fun _ h => absurd h List.not_mem_nil⟩
  | cons x xs ih =>
    intro y
    rw [List.foldl_cons]
    obtain ⟨h1, h2⟩ := ih (min y x)
    refine ⟨by omega, fun z hz => ?_⟩
    rcases List.mem_cons.mp hz with e | e
    · subst e; omega
    · exact h2 z e
theorem foldl_min_mem (ys : List Int) : ∀ y : Int, ys.foldl min y ∈ y :: ys := by
  induction ys with
  | nil => intro y; exact List.mem_singleton.mpr rfl
  | cons x xs ih =>
    intro y
    rw [List.foldl_cons]
    rcases List.mem_cons.mp (ih (min y x)) with e | e
    · rw [e]
      by_cases h : x < y
      · rw [show min y x = x by omega]; exact List.mem_cons_of_mem _ List.mem_cons_self
      · rw [show min y x = y by omega]; exact List.mem_cons_self
    · exact List.mem_cons_of_mem _ (List.mem_cons_of_mem _ e)
theorem minO_le {ns : List Int} {m : Int} (h : minO ns = some m) : ∀ z ∈ ns, m ≤ z := by
  cases ns with
  | nil => cases h
  | cons y ys =>
    cases h
    intro z hz
    obtain ⟨h1, h2⟩ := foldl_min_le ys y
    rcases List.mem_cons.mp hz with e | e
    · rw [e]; exact h1
    · exact h2 z e
theorem minO_mem {ns : List Int} {m : Int} (h : minO ns = some m) : m ∈ ns := by
  cases ns with
  | nil => cases h
  | cons y ys => cases h; exact foldl_min_mem ys y
def rMinDn (K : PySem.W.Frag) : List V → List V → Hp → VK → Prop := fun vs zs H Q => ∃ (a : Addr) (ns : List Int), vs = [V.ref a] ∧ zs = [V.non] ∧ SqL K H a (ns.map V.int) ∧ Q (voI (minO ns)) H
theorem cr_minDn {X : Cx} (hc : X.calm = true) (hu : X.A.units + 64 < cLine) : CallRK X (.builtin "min") [Str.ofString "default"] (rMinDn X.K) := by
  intro pins s σ H vs zs us ws Q I r rz h
  obtain ⟨a, ns, rfl, rfl, hs, q⟩ := h
  obtain rfl := Vals.ref1 r
  obtain ⟨w1, rfl, e1⟩ := vals1 rz
  obtain rfl : w1 = Value.none := e1
  obtain ⟨its, rv, hl, _⟩ := I.list hs
  have hi := rv.ints
  obtain ⟨as, ra⟩ := ints_hold (h := s.heap) hi
  refine PySem.W.min_list_datum_default (α := Int) (xs := ns) (I.ok.hd hc) hl.isList ⟨as, ra⟩ (by show X.A.units + 1 + 0 < cLine; omega) (fun e h' tk hk => ?_) (fun y ys i v h' tk e _ hv hk => ?_)
  · subst e
    exact ⟨.non, H, I.kept hk, rfl, q⟩
  · subst e
    obtain ⟨bs, rd⟩ := hv
    obtain ⟨t', rfl⟩ : ∃ t', v = .int (PySem.W.minOf y ys) t' := by
      cases rd
      exact ⟨_, rfl⟩
    refine ⟨voI (minO (y :: ys)), H, I.kept hk, ⟨t', ?_⟩, q⟩
    show Value.int _ _ = Value.int _ _
    congr 1
    exact foldl_min ys y
theorem ev_minDn {Γ : Gm} {Ω : Om} {K : PySem.W.Frag} {ta tk : TA} {α : Type} {xs : List α} {g : α → Int} (ha : EvA Γ Ω ta [Ls K (xs.map fun x => I (g x))]) (hk : EvA Γ Ω tk [Nn]) : Ev Γ Ω (tCKw (rMinDn K) ta tk) (Op (fun n => I n) (minO (xs.map g))) := fun Z F H σ c Q q => ha Z F H σ c _ fun vs F1 H1 c1 s1 r1 => hk Z F1 H1 σ c1 _ fun zs F2 H2 c2 s2 r2 => by
  obtain ⟨v, rfl, a, ys, e, hs, hl⟩ := r1.one
  obtain ⟨z, rfl, e2⟩ := r2.one
  cases e
  cases e2
  have w := all_map hl
  subst w
  refine ⟨a, xs.map g, rfl, rfl, c2.sub.seq (s2.fe.seq hs), q _ F2 H2 c2 (s1.trans s2) ?_⟩
  cases xs.map g <;> rfl
/-- a text in a tuple of texts -/
theorem ev_inTupS {Γ : Gm} {Ω : Om} {K : PySem.W.Frag} {ta tb : TE} {x : Str} {xs : List Str} (neg : Bool) (ha : Ev Γ Ω ta (S x)) (hb : Ev Γ Ω tb (Tp K (xs.map fun x => S x))) : Ev Γ Ω (tOp (rIn K neg) ta tb) (B (if neg then !decide (x ∈ xs) else decide (x ∈ xs))) := fun Z F H σ c Q q =>
  ha Z F H σ c _ fun v F1 H1 c1 s1 rv => hb Z F1 H1 σ c1 _ fun w F2 H2 c2 s2 rw' => by
    cases rv
    obtain ⟨a, ys, e, h2, hl⟩ := rw'
    subst e
    have e := all_strV hl
    subst e
    refine ⟨a, _, rfl, .inr (same_seqT c2.sub h2), rfl, flat_strs, ?_⟩
    rw [in_strs]
    cases neg <;> exact q _ F2 H2 c2 (s1.trans s2) rfl
end Y

namespace Y
open PySem L2 PySem.Spec
open PyProof.Rows
/-! ## bool less bool; calls that hand out something owned -/
section
variable {X : Cx}
def rSubB : R2 := fun x y H Q => ∃ a b, x = .bl a ∧ y = .bl b ∧ Q (.int (b2i a - b2i b)) H
theorem op_subB : OpR X (binaryOp .Sub) rSubB := by
  intro pins s σ H x y v u Q I rx ry h
  obtain ⟨a, b, rfl, rfl, q⟩ := h
  cases (show v = Value.bool a from rx)
  cases (show u = Value.bool b from ry)
  exact sub_bool ⟨.int (b2i a - b2i b), H, I.tok _, ⟨_, rfl⟩, q⟩
end
section
variable {K : PySem.W.Frag} {Z : Bs} {F H : Hp} {σ : L2.St} {Γ Γ' : Gm} {Ω Ω' Ωr : Om} {ta tb te tf : TE} {tt : TT} {p dx C : Addr} {E : XK} {R : As} {Rs Ss : List As} {fs : List (Str × As)} {m f : Str} {j : Nat} {n : L2.St → Hp → Prop} {r : VK} {bk ct : L2.St → Hp → Prop}
theorem ev_subB {a b : Bool} (ha : Ev Γ Ω ta (B a)) (hb : Ev Γ Ω tb (B b)) : Ev Γ Ω (tOp rSubB ta tb) (I (b2i a - b2i b)) := ev_op ha hb fun F H v w s e e' Q q => ⟨a, b, e, e', q _ F H (Ext.refl _ _ _) s rfl⟩
/-- an expression that changes what is owned and may bring along something owned -/
def EvG {β : Type} (Z : Bs) (Γ : Gm) (Ω : Om) (te : TE) (P : β → Prop) (R : β → As) (Ω' : β → Om) : Prop := ∀ (F H : Hp) (σ : L2.St), Ctx Z F H σ Γ Ω → ∀ Q : VK, (∀ b v F' H', P b → Ctx Z F' H' σ Γ (Ω' b) → Same F F' → (R b).p F' v → Q v H') → te σ H Q
theorem eg_meth {α β : Type} {args : α → List As} {Oi : α → Om} {pre : α → Prop} {post : α → β → Prop} {res : α → β → As} {Oo : α → β → Om} {t : TA} (a : α) (ho : Ev Γ Ω ta (Rf p)) (hm : Ω[j]? = some (p, oI C dx fs)) (hn : fs.lookup m = none) (h : EvA Γ Ω t Rs) (ha : args a = Rf p :: Rs) (hs : Ω.Perm (Oi a ++ Ωr)) (hp : pre a)
    (hw : ∀ x ∈ (Oi a).map (·.1), Wr Z x) : EvG Z Γ Ω (tMeth C m (CtG args Oi pre post res Oo) [] E ta t) (post a) (res a) (fun b => Oo a b ++ Ωr) := fun F H σ c Q k =>
  ho Z F H σ c _ fun x F1 H1 c1 s1 rx => by
    cases rx
    obtain ⟨_, o, h2, vs, eo, hf⟩ := c1.own _ (List.mem_of_getElem? hm)
    subst eo
    refine ⟨p, dx, vs, rfl, h2, hf.none hn, h Z F1 H1 σ c1 _ fun ws F2 H2 c2 s2 rs => ?_⟩
    have cp := c2.perm hs
    have nd := cp.nd
    rw [List.map_append, List.nodup_append] at nd
    refine ⟨a, F2, c2.sub, ?_, cp.own.sub fun x hx => List.mem_append_left _ hx, nd.1, hp, fun b v F3 H3 hb e3 s3 rv ow nd2 hn2 => k b v F3 H3 hb (cp.changedG e3 s3 ow nd2 hn2 hw) ((s1.trans s2).fe.trans e3.fe) rv⟩
    rw [ha, List.append_nil]
    exact ⟨rfl, rs⟩
theorem eg_call {α β : Type} {args : α → List As} {pre : α → Prop} {post : α → β → Prop} {res : α → β → As} {Oo : α → β → Om} {t : TA} (a : α) (h : EvA Γ Ω t (args a)) (hp : pre a) : EvG Z Γ Ω (tCall (CtG args (fun _ => []) pre post res Oo) [] E t) (post a) (res a) (fun b => Oo a b ++ Ω) := fun F H σ c Q k =>
  h Z F H σ c _ fun vs F1 H1 c1 s1 rs => by
    refine ⟨a, F1, c1.sub, by rw [List.append_nil]; exact rs, fun x hx => absurd hx List.not_mem_nil, List.nodup_nil, hp, fun b v F3 H3 hb e3 s3 rv ow nd2 hn2 => k b v F3 H3 hb (Ctx.changedG (Ωi := []) c1 e3 s3 ow nd2 hn2 (fun x hx => absurd hx List.not_mem_nil)) (s1.fe.trans e3.fe) rv⟩
theorem eg_is {β : Type} {P : β → Prop} {R R' : β → As} {Ω' Ω2 : β → Om} (h : EvG Z Γ Ω te P R Ω') (e1 : ∀ b, R b = R' b) (e2 : ∀ b, Ω' b = Ω2 b) : EvG Z Γ Ω te P R' Ω2 := fun F H σ c Q k => h F H σ c Q fun b v F1 H1 hb c1 s1 rv => k b v F1 H1 hb (e2 b ▸ c1) s1 (e1 b ▸ rv)
theorem eg_set {β : Type} {P : β → Prop} {R : β → As} {Ω' : β → Om} {i : Nat} (c : Ctx Z F H σ Γ Ω) (e : EvG Z Γ Ω te P R Ω') (k : ∀ b F' H' σ', P b → Ctx Z F' H' σ' (Γ.set i (some (R b))) (Ω' b) → Same F F' → n σ' H') : tAsg te (gName i) ⟨n, r, bk, ct⟩ σ H := e F H σ c _ fun b v F1 H1 hb c1 s1 rv => k b F1 H1 _ hb (c1.set i rv) s1
theorem eg_drop {β : Type} {P : β → Prop} {R : β → As} {Ω' : β → Om} (c : Ctx Z F H σ Γ Ω) (e : EvG Z Γ Ω te P R Ω') (k : ∀ b F' H', P b → Ctx Z F' H' σ Γ (Ω' b) → Same F F' → n σ H') : tDrop te ⟨n, r, bk, ct⟩ σ H := e F H σ c _ fun b v F1 H1 hb c1 s1 rv => k b F1 H1 hb c1 s1
theorem eg_ret {β : Type} {P : β → Prop} {R : β → As} {Ω' : β → Om} (c : Ctx Z F H σ Γ Ω) (e : EvG Z Γ Ω te P R Ω') (k : ∀ b v F' H', P b → Ctx Z F' H' σ Γ (Ω' b) → Same F F' → (R b).p F' v → r v H') : tRet te ⟨n, r, bk, ct⟩ σ H := e F H σ c _ k
theorem eg_app {β : Type} {P : β → Prop} {R : β → As} {Ω' : β → Om} {q : Addr} {j2 : Nat} (c : Ctx Z F H σ Γ Ω) (h : Ev Γ Ω ta (Rf q)) (hm : Ω[j]? = some (q, oL Rs)) (e : EvG Z Γ Ω te P R Ω') (hm2 : ∀ b, P b → (Ω' b)[j2]? = some (q, oL Rs)) (hl : Rs.length ≤ 100000) (k : ∀ b F' H', P b → Ctx Z F' H' σ Γ ((Ω' b).set j2 (q, oL (Rs ++ [R b]))) → Same F F' → n σ H') (hw : Wr Z q) :
    tDrop (tBM K "list" rAppend ta (tCons te tNil)) ⟨n, r, bk, ct⟩ σ H :=
  h Z F H σ c _ fun v F1 H1 c1 s1 rv => by
    cases rv
    obtain ⟨_, o, h2, xs, eo, hx⟩ := c1.own _ (List.mem_of_getElem? hm)
    refine ⟨.inl ⟨rfl, _, SqL.of (by rw [h2, eo])⟩, ?_⟩
    refine e F1 H1 σ c1 _ fun b y F2 H2 hb c2 s2 ry => ?_
    obtain ⟨_, o, h2, xs, eo, hx⟩ := c2.own _ (List.mem_of_getElem? (hm2 b hb))
    refine ⟨q, xs, y, rfl, rfl, by rw [h2, eo], ?_, ?_⟩
    · rw [hx.length]
      exact Nat.lt_of_le_of_lt hl (by decide)
    · exact k b F2 _ hb (c2.chg (hm2 b hb) ⟨_, rfl, hx.app ⟨ry, trivial⟩⟩ hw) (s1.fe.trans s2)
theorem eg_ext {β : Type} {P : β → Prop} {Ss : β → List As} {Ω' : β → Om} {q : Addr} {j2 : β → Nat} (c : Ctx Z F H σ Γ Ω) (h : Ev Γ Ω ta (Rf q)) (hm : Ω[j]? = some (q, oL Rs)) (e : EvG Z Γ Ω te P (fun b => Lh (Ss b)) Ω') (hm2 : ∀ b, P b → (Ω' b)[j2 b]? = some (q, oL Rs)) (hl : ∀ b, P b → Rs.length + (Ss b).length ≤ 100000) (k : ∀ b F' H', P b → Ctx Z F' H' σ Γ ((Ω' b).set (j2 b) (q, oL (Rs ++ Ss b))) → Same F F' → n σ H') (hw : Wr Z q) :
    tDrop (tBM K "list" rExtend ta (tCons te tNil)) ⟨n, r, bk, ct⟩ σ H :=
  h Z F H σ c _ fun v F1 H1 c1 s1 rv => by
    cases rv
    obtain ⟨_, o, h2, xs, eo, hx⟩ := c1.own _ (List.mem_of_getElem? hm)
    refine ⟨.inl ⟨rfl, _, SqL.of (by rw [h2, eo])⟩, ?_⟩
    refine e F1 H1 σ c1 _ fun b y F2 H2 hb c2 s2 ry => ?_
    obtain ⟨a, zs, ey, ha, hz⟩ := ry
    subst ey
    obtain ⟨_, o, h2, xs, eo, hx⟩ := c2.own _ (List.mem_of_getElem? (hm2 b hb))
    refine ⟨q, a, xs, zs, rfl, rfl, by rw [h2, eo], c2.sub _ _ ha, ?_, ?_⟩
    · rw [hx.length, hz.length]
      exact Nat.le_trans (hl b hb) (by decide)
    · exact k b F2 _ hb (c2.chg (hm2 b hb) ⟨_, rfl, hx.app hz⟩ hw) (s1.fe.trans s2)
theorem eg_cat {β : Type} {P : β → Prop} {Ss : β → List As} {Ω' : β → Om} {q : Addr} {j2 : β → Nat} (h : Ev Γ Ω ta (Rf q)) (e : EvG Z Γ Ω tb P (fun b => Lh (Ss b)) Ω') (hm2 : ∀ b, P b → (Ω' b)[j2 b]? = some (q, oL Rs)) (hl : ∀ b, P b → Rs.length + (Ss b).length ≤ 100000) : EvG Z Γ Ω (tOp rCat ta tb) P (fun b => Ls K (Rs ++ Ss b)) Ω' := fun F H σ c Q k =>
  h Z F H σ c _ fun v F1 H1 c1 s1 rv => by
    cases rv
    refine e F1 H1 σ c1 _ fun b y F2 H2 hb c2 s2 ry => ?_
    obtain ⟨a, zs, ey, ha, hz⟩ := ry
    subst ey
    obtain ⟨_, o, h2, xs, eo, hx⟩ := c2.own _ (List.mem_of_getElem? (hm2 b hb))
    refine ⟨q, a, xs, zs, rfl, rfl, by rw [h2, eo], c2.sub _ _ ha, ?_, fun p hp => ?_⟩
    · rw [hx.length, hz.length]
      exact Nat.le_trans (hl b hb) (by decide)
    · obtain ⟨e3, s3⟩ := Ext.new (o := .lst (xs ++ zs)) c2.sub hp
      exact k b (.ref p) _ _ hb (c2.step e3 s3) (s1.fe.trans (s2.trans e3.fe)) ⟨p, xs ++ zs, rfl, SqL.of upd_same, (hx.app hz).mono e3.fe⟩
/-- a tuple with something new and owned in it -/
theorem eg_tup {A : OA} {Rs : Addr → List As} {t : TA} (h : EvAn Γ Ω t Rs A) (hl : ∀ p, (Rs p).length ≤ 1000) : EvG Z Γ Ω (tTup t) (fun (_ : Addr) => True) (fun p => Tp K (Rs p)) (fun p => (p, A) :: Ω) := fun F H σ c Q q =>
  h Z F H σ c _ fun p vs F1 H1 c1 s1 hp rs => ⟨by rw [rs.length]; exact Nat.le_of_lt (small1000 (hl p)), fun a ha => by
    obtain ⟨e, s⟩ := Ext.new (o := .tup vs) c1.sub ha
    exact q p (.ref a) _ _ trivial (c1.step e s) (s1.fe.trans e.fe) ⟨a, vs, rfl, SqT.of upd_same, rs.mono e.fe⟩⟩
end
end Y

local macro_rules | `(tactic| walk_at "y") => `(tactic| first | assumption | trivial | decide +kernel | (exact ⟨by decide +kernel, by decide +kernel⟩) | omega | (dsimp only; omega) | (dsimp only; decide +kernel))
local macro_rules | `(tactic| walk_at "ty") => `(tactic| first | exact Y.ty_int | exact Y.ty_fq | exact Y.ty_fr | exact Y.ty_tup | exact Y.ty_lst | exact Y.ty_bool)
local macro_rules | `(tactic| walk_at "kd") => `(tactic| first | exact Y.kd_fq | exact Y.kd_list Y.kd_fq | exact Y.kd_int | exact Y.kd_list Y.kd_int | exact Y.kd_pair | exact Y.kd_list Y.kd_pair)
local macro_rules | `(tactic| walk_at "ls") => `(tactic| first | exact Y.cutA_to | exact Y.cutA_from | exact Y.cutA_rest | exact Y.cutA_most | exact List.map_reverse.symm | exact (List.map_nil).symm | rfl)
local macro_rules | `(tactic| walk_at "nev") => `(tactic| (intro x; first | exact Y.nev_tp | exact Y.nev_ls | exact Y.nev_c (fun z => nomatch z)))
local macro_rules | `(tactic| walk_at "sub") => `(tactic| first | exact List.Sublist.refl _ | exact List.Sublist.cons _ (List.Sublist.refl _) | exact List.Sublist.cons₂ _ (List.nil_sublist _) | exact List.nil_sublist _)

namespace Y
open PySem L2 PySem.Spec
open PyProof.Rows (envOfC)
open C8 (tCut pss_cut)
def top (i : Nat) : Stmt := PySem.Challenge.pw_sharewheel_k23_whole_flow_walked.main.body.getD i (.Pass ⟨0, 0, 0, 0⟩)
abbrev s_divisor : Stmt := top 5
theorem sc_divisor : FnScope ["one", "other", "rest"] ["one", "other"] (defScope s_divisor) := ⟨rfl, rfl, rfl, by decide +kernel, rfl, by decide +kernel, by decide +kernel⟩
abbrev s_ratio : Stmt := top 6
theorem sc_ratio : FnScope ["top", "bottom", "shared"] ["top", "bottom"] (defScope s_ratio) := ⟨rfl, rfl, rfl, by decide +kernel, rfl, by decide +kernel, by decide +kernel⟩
abbrev s_plus : Stmt := top 7
theorem sc_plus : FnScope ["one", "other"] ["one", "other"] (defScope s_plus) := ⟨rfl, rfl, rfl, by decide +kernel, rfl, by decide +kernel, by decide +kernel⟩
abbrev s_minus : Stmt := top 8
theorem sc_minus : FnScope ["one", "other"] ["one", "other"] (defScope s_minus) := ⟨rfl, rfl, rfl, by decide +kernel, rfl, by decide +kernel, by decide +kernel⟩
abbrev s_times : Stmt := top 9
theorem sc_times : FnScope ["one", "other"] ["one", "other"] (defScope s_times) := ⟨rfl, rfl, rfl, by decide +kernel, rfl, by decide +kernel, by decide +kernel⟩
abbrev s_over : Stmt := top 10
theorem sc_over : FnScope ["one", "other"] ["one", "other"] (defScope s_over) := ⟨rfl, rfl, rfl, by decide +kernel, rfl, by decide +kernel, by decide +kernel⟩
abbrev s_under : Stmt := top 11
theorem sc_under : FnScope ["one", "other"] ["one", "other"] (defScope s_under) := ⟨rfl, rfl, rfl, by decide +kernel, rfl, by decide +kernel, by decide +kernel⟩
abbrev s_greater : Stmt := top 12
theorem sc_greater : FnScope ["one", "other"] ["one", "other"] (defScope s_greater) := ⟨rfl, rfl, rfl, by decide +kernel, rfl, by decide +kernel, by decide +kernel⟩
abbrev s_Tide___init__ : Stmt := inClass (top 14) 0
theorem sc_Tide___init__ : FnScope ["self"] ["self"] (defScope s_Tide___init__) := ⟨rfl, rfl, rfl, by decide +kernel, rfl, by decide +kernel, by decide +kernel⟩
abbrev s_Tide_heads : Stmt := inClass (top 14) 1
theorem sc_Tide_heads : FnScope ["self", "found", "begin", "end", "share", "place"] ["self"] (defScope s_Tide_heads) := ⟨rfl, rfl, rfl, by decide +kernel, rfl, by decide +kernel, by decide +kernel⟩
abbrev s_Tide_goes : Stmt := inClass (top 14) 2
theorem sc_Tide_goes : FnScope ["self", "limit", "heads", "start", "whole", "tag", "share", "place", "nearest", "reach"] ["self", "limit"] (defScope s_Tide_goes) := ⟨rfl, rfl, rfl, by decide +kernel, rfl, by decide +kernel, by decide +kernel⟩
abbrev s_Tide_rises : Stmt := inClass (top 14) 3
theorem sc_Tide_rises : FnScope ["self", "limit", "found", "stretch"] ["self", "limit"] (defScope s_Tide_rises) := ⟨rfl, rfl, rfl, by decide +kernel, rfl, by decide +kernel, by decide +kernel⟩
abbrev s_Tide_drains : Stmt := inClass (top 14) 4
theorem sc_Tide_drains : FnScope ["self", "found"] ["self"] (defScope s_Tide_drains) := ⟨rfl, rfl, rfl, by decide +kernel, rfl, by decide +kernel, by decide +kernel⟩
abbrev s_Tide_come : Stmt := inClass (top 14) 5
theorem sc_Tide_come : FnScope ["self", "piece", "at", "who", "length", "share", "begin", "end", "entry"] ["self", "piece"] (defScope s_Tide_come) := ⟨rfl, rfl, rfl, by decide +kernel, rfl, by decide +kernel, by decide +kernel⟩
abbrev s_flow : Stmt := top 16
theorem sc_flow : FnScope ["row", "tide", "found", "piece"] ["row"] (defScope s_flow) := ⟨rfl, rfl, rfl, by decide +kernel, rfl, by decide +kernel, by decide +kernel⟩
abbrev s__law_cell_at : Stmt := top 18
theorem sc__law_cell_at : FnScope ["_law_script", "_law_k"] ["_law_script", "_law_k"] (defScope s__law_cell_at) := ⟨rfl, rfl, rfl, by decide +kernel, rfl, by decide +kernel, by decide +kernel⟩
abbrev s__law_mix : Stmt := top 19
theorem sc__law_mix : FnScope ["_law_cell", "_law_k", "_law_base", "_law_left", "_law_step", "_law_number"] ["_law_cell", "_law_k"] (defScope s__law_mix) := ⟨rfl, rfl, rfl, by decide +kernel, rfl, by decide +kernel, by decide +kernel⟩
abbrev s__law_row : Stmt := top 20
theorem sc__law_row : FnScope ["_law_script", "_law_first", "_law_way", "_law_most", "_law_shares", "_law_gaps", "_law_few", "_law_cells", "_law_at", "_law_row_here", "_law_cell", "_law_who"] ["_law_script"] (defScope s__law_row) := ⟨rfl, rfl, rfl, by decide +kernel, rfl, by decide +kernel, by decide +kernel⟩
abbrev s__law_divisor : Stmt := top 21
theorem sc__law_divisor : FnScope ["_law_one", "_law_other"] ["_law_one", "_law_other"] (defScope s__law_divisor) := ⟨rfl, rfl, rfl, by decide +kernel, rfl, by decide +kernel, by decide +kernel⟩
abbrev s__law_lowest : Stmt := top 22
theorem sc__law_lowest : FnScope ["_law_top", "_law_bottom", "_law_shared"] ["_law_top", "_law_bottom"] (defScope s__law_lowest) := ⟨rfl, rfl, rfl, by decide +kernel, rfl, by decide +kernel, by decide +kernel⟩
abbrev s__law_whole : Stmt := top 23
theorem sc__law_whole : FnScope ["_law_found"] ["_law_found"] (defScope s__law_whole) := ⟨rfl, rfl, rfl, by decide +kernel, rfl, by decide +kernel, by decide +kernel⟩
abbrev s__law_fraction : Stmt := top 24
theorem sc__law_fraction : FnScope ["_law_found"] ["_law_found"] (defScope s__law_fraction) := ⟨rfl, rfl, rfl, by decide +kernel, rfl, by decide +kernel, by decide +kernel⟩
abbrev s__law_under : Stmt := top 25
theorem sc__law_under : FnScope ["_law_one", "_law_other"] ["_law_one", "_law_other"] (defScope s__law_under) := ⟨rfl, rfl, rfl, by decide +kernel, rfl, by decide +kernel, by decide +kernel⟩
abbrev s__law_heads : Stmt := top 26
theorem sc__law_heads : FnScope ["_law_row_here", "_law_done", "_law_now", "_law_found", "_law_known", "_law_place", "_law_piece"] ["_law_row_here", "_law_done", "_law_now"] (defScope s__law_heads) := ⟨rfl, rfl, rfl, by decide +kernel, rfl, by decide +kernel, by decide +kernel⟩
abbrev s__law_parts : Stmt := top 27
theorem sc__law_parts : FnScope ["_law_found", "_law_heads_here", "_law_row_here", "_law_whole_here", "_law_part", "_law_place"] ["_law_found", "_law_heads_here", "_law_row_here", "_law_whole_here"] (defScope s__law_parts) := ⟨rfl, rfl, rfl, by decide +kernel, rfl, by decide +kernel, by decide +kernel⟩
abbrev s__law_idle : Stmt := top 28
theorem sc__law_idle : FnScope ["_law_row_here", "_law_done", "_law_start", "_law_place", "_law_piece"] ["_law_row_here", "_law_done", "_law_start"] (defScope s__law_idle) := ⟨rfl, rfl, rfl, by decide +kernel, rfl, by decide +kernel, by decide +kernel⟩
abbrev s__law_risen : Stmt := top 29
theorem sc__law_risen : FnScope ["_law_height", "_law_start", "_law_end", "_law_whole_here", "_law_top", "_law_bottom"] ["_law_height", "_law_start", "_law_end", "_law_whole_here"] (defScope s__law_risen) := ⟨rfl, rfl, rfl, by decide +kernel, rfl, by decide +kernel, by decide +kernel⟩
abbrev s__law_out : Stmt := top 30
theorem sc__law_out : FnScope ["_law_begin", "_law_height", "_law_piece", "_law_flowed_by", "_law_due"] ["_law_begin", "_law_height", "_law_piece"] (defScope s__law_out) := ⟨rfl, rfl, rfl, by decide +kernel, rfl, by decide +kernel, by decide +kernel⟩
abbrev s__law_shape : Stmt := top 31
theorem sc__law_shape : FnScope ["_law_found"] ["_law_found"] (defScope s__law_shape) := ⟨rfl, rfl, rfl, by decide +kernel, rfl, by decide +kernel, by decide +kernel⟩
abbrev s_law : Stmt := top 32
theorem sc_law : FnScope ["_law_script", "_law_row_here", "_law_handed", "_law_stretches", "_law_done", "_law_begins", "_law_height", "_law_now", "_law_stretch", "_law_heads_here", "_law_whole_here", "_law_place", "_law_over_length", "_law_piece", "_law_start", "_law_end", "_law_parts_here"] ["_law_script"] (defScope s_law) := ⟨rfl, rfl, rfl, by decide +kernel, rfl, by decide +kernel, by decide +kernel⟩
/-- what the text's top leaves -/
structure G (K : PySem.W.Frag) (mg : Str → Option Value) (C : Str → Addr) : Prop where
  b_abs : mg "abs" = none
  b_bool : mg "bool" = none
  b_enumerate : mg "enumerate" = none
  b_int : mg "int" = none
  b_isinstance : mg "isinstance" = none
  b_len : mg "len" = none
  b_list : mg "list" = none
  b_range : mg "range" = none
  b_sum : mg "sum" = none
  b_tuple : mg "tuple" = none
  b_zip : mg "zip" = none
  x_NoRatio : Xc K mg (C "NoRatio") "NoRatio"
  c_Tide : Tc K mg (C "Tide") "Tide"
  n_Tide_ends : NoAttr K (C "Tide") "ends"
  n_Tide_flowing : NoAttr K (C "Tide") "flowing"
  n_Tide_height : NoAttr K (C "Tide") "height"
  n_Tide_many : NoAttr K (C "Tide") "many"
  n_Tide_moment : NoAttr K (C "Tide") "moment"
  d_divisor : Tx K mg "divisor" s_divisor ["one", "other"]
  d_ratio : Tx K mg "ratio" s_ratio ["top", "bottom"]
  d_plus : Tx K mg "plus" s_plus ["one", "other"]
  d_minus : Tx K mg "minus" s_minus ["one", "other"]
  d_times : Tx K mg "times" s_times ["one", "other"]
  d_over : Tx K mg "over" s_over ["one", "other"]
  d_under : Tx K mg "under" s_under ["one", "other"]
  d_greater : Tx K mg "greater" s_greater ["one", "other"]
  d_Tide___init__ : Ti K (C "Tide") "Tide.__init__" s_Tide___init__ ["self"] []
  d_Tide_heads : Tm K (C "Tide") "heads" "Tide.heads" s_Tide_heads ["self"]
  d_Tide_goes : Tm K (C "Tide") "goes" "Tide.goes" s_Tide_goes ["self", "limit"]
  d_Tide_rises : Tm K (C "Tide") "rises" "Tide.rises" s_Tide_rises ["self", "limit"]
  d_Tide_drains : Tm K (C "Tide") "drains" "Tide.drains" s_Tide_drains ["self"]
  d_Tide_come : Tm K (C "Tide") "come" "Tide.come" s_Tide_come ["self", "piece"]
  d_flow : Tx K mg "flow" s_flow ["row"]
  d__law_cell_at : Tx K mg "_law_cell_at" s__law_cell_at ["_law_script", "_law_k"]
  d__law_mix : Tx K mg "_law_mix" s__law_mix ["_law_cell", "_law_k"]
  d__law_row : Tx K mg "_law_row" s__law_row ["_law_script"]
  d__law_divisor : Tx K mg "_law_divisor" s__law_divisor ["_law_one", "_law_other"]
  d__law_lowest : Tx K mg "_law_lowest" s__law_lowest ["_law_top", "_law_bottom"]
  d__law_whole : Tx K mg "_law_whole" s__law_whole ["_law_found"]
  d__law_fraction : Tx K mg "_law_fraction" s__law_fraction ["_law_found"]
  d__law_under : Tx K mg "_law_under" s__law_under ["_law_one", "_law_other"]
  d__law_heads : Tx K mg "_law_heads" s__law_heads ["_law_row_here", "_law_done", "_law_now"]
  d__law_parts : Tx K mg "_law_parts" s__law_parts ["_law_found", "_law_heads_here", "_law_row_here", "_law_whole_here"]
  d__law_idle : Tx K mg "_law_idle" s__law_idle ["_law_row_here", "_law_done", "_law_start"]
  d__law_risen : Tx K mg "_law_risen" s__law_risen ["_law_height", "_law_start", "_law_end", "_law_whole_here"]
  d__law_out : Tx K mg "_law_out" s__law_out ["_law_begin", "_law_height", "_law_piece"]
  d__law_shape : Tx K mg "_law_shape" s__law_shape ["_law_found"]
  d_law : Tx K mg "law" s_law ["_law_script"]
def ldv (z b : Int) : Nat → Int
  | 0 => z
  | j + 1 => ldv z b j / b
def mixB (c k : Int) : Int := if c / 64 % 2 = 1 ∧ 0 < ldv (c / 256) (if c / 128 % 2 = 0 then 50 else 1000000000) (k - 1).toNat then ldv (c / 256) (if c / 128 % 2 = 0 then 50 else 1000000000) (k - 1).toNat % (if c / 128 % 2 = 0 then 50 else 1000000000) else mix c k
theorem mixB_lo (c k : Int) : 0 ≤ mixB c k := by
  unfold mixB
  have h : (0 : Int) < (if c / 128 % 2 = 0 then 50 else 1000000000) := by split <;> decide
  revert h
  generalize (if c / 128 % 2 = 0 then (50 : Int) else 1000000000) = b
  intro h
  split
  · exact Int.emod_nonneg _ (by omega)
  · exact mix_lo c k
theorem mixB_hi (c k : Int) : mixB c k < 2147483647 := by
  unfold mixB
  have h : (0 : Int) < (if c / 128 % 2 = 0 then 50 else 1000000000) ∧ (if c / 128 % 2 = 0 then (50 : Int) else 1000000000) < 2147483647 := by split <;> decide
  revert h
  generalize (if c / 128 % 2 = 0 then (50 : Int) else 1000000000) = b
  intro h
  split
  · have := Int.emod_lt_of_pos (ldv (c / 256) b (k - 1).toNat) h.1
    omega
  · exact mix_hi c k

abbrev Fe := Rat × Rat × Int × Int
abbrev Str3 := Rat × Rat × List (Int × Rat)
structure Td where
  mo : Rat
  he : Rat
  mn : Int
  fl : List Fe
  en : List (Int × Rat)
abbrev FeA (K : PySem.W.Frag) (e : Fe) : As := Tp K [Fq K e.1, Fq K e.2.1, I e.2.2.1, I e.2.2.2]
abbrev HdA (K : PySem.W.Frag) (e : Fe) : As := Tp K [Fq K e.2.1, I e.2.2.1, I e.2.2.2]
abbrev PrA (K : PySem.W.Frag) (p : Int × Rat) : As := Tp K [I p.1, Fq K p.2]
abbrev SrA (K : PySem.W.Frag) (s : Str3) : As := Tp K [Fq K s.1, Fq K s.2.1, Ls K (s.2.2.map (PrA K))]
def tF (K : PySem.W.Frag) (t : Td) (d : Addr) : List (Str × As) := [("moment", Fq K t.mo), ("height", Fq K t.he), ("many", I t.mn), ("flowing", Ls K (t.fl.map (FeA K))), ("ends", Rf d)]
def isHd (h : Rat) (e : Fe) : Bool := !decide (h < e.1) && decide (h < e.2.1)
@[irreducible] def hds (t : Td) : List Fe := t.fl.filter (isHd t.he)
@[irreducible] def whS (hs : List Fe) : Int := (hs.map fun e => e.2.2.1).sum
def nrS (b : Rat) (e : Fe) : Rat := if e.2.1 < b then e.2.1 else b
@[irreducible] def nearH (hs : List Fe) : Rat := hs.foldl nrS ((hs.head?.map (·.2.1)).getD 0)
@[irreducible] def reach (t : Td) : Rat := t.mo + (nearH (hds t) - t.he) * (whS (hds t) : Rat)
def cutB (t : Td) : Option Rat → Bool
  | some L => decide (L < reach t)
  | none => false
@[irreducible] def goT (t : Td) (lim : Option Rat) : Td := if hds t = [] then { t with mo := lim.getD 0 } else if cutB t lim then { t with he := t.he + (lim.getD 0 - t.mo) / (whS (hds t) : Rat), mo := lim.getD 0 } else { t with he := nearH (hds t), mo := reach t }
@[irreducible] def goR (t : Td) (lim : Option Rat) : Option Str3 := if hds t = [] then none else some (t.mo, (goT t lim).mo, (hds t).map fun e => (e.2.2.2, Rat.divInt e.2.2.1 (whS (hds t))))
def rk (L : Rat) : Nat → Td × List Str3 → Td × List Str3
  | 0, s => s
  | k + 1, s => if s.1.mo < L then rk L k (goT s.1 (some L), s.2 ++ (goR s.1 (some L)).toList) else s
@[irreducible] def rise (t : Td) (L : Rat) : Td × List Str3 := rk L (t.fl.length + 1) (t, [])
def gtr2 (a b : Rat) : Rat := if a < b then b else a
/-- the begin tag of what comes -/
@[irreducible] def begT (t : Td) (who : Int) : Rat := gtr2 t.he ((getD who t.en).getD 0)
def addT (t : Td) (who len sh : Int) : Td := { t with en := putD t.en who (begT t who + Rat.divInt len sh), fl := t.fl.filter (fun e => decide (t.he < e.2.1)) ++ [(begT t who, begT t who + Rat.divInt len sh, sh, t.mn)], mn := t.mn + 1 }
@[irreducible] def comeT (t : Td) (at' who len sh : Int) : Td := addT (rise t (at' : Rat)).1 who len sh
@[irreducible] def tag1 (t : Td) (at' who : Int) : Rat := begT (rise t (at' : Rat)).1 who
@[irreducible] def tag2 (t : Td) (at' who len sh : Int) : Rat := tag1 t at' who + Rat.divInt len sh
/-! sizes -/
def On (D : Int) (q : Rat) : Prop := ∃ z : Int, q * (D : Rat) = (z : Rat)
section
variable {D E : Int} {a b : Rat}
theorem On.add (h : On D a) (k : On D b) : On D (a + b) := by
  obtain ⟨x, hx⟩ := h
  obtain ⟨y, hy⟩ := k
  exact ⟨x + y, by rw [Rat.add_mul, hx, hy, Rat.intCast_add]⟩
theorem On.sub (h : On D a) (k : On D b) : On D (a - b) := by
  obtain ⟨x, hx⟩ := h
  obtain ⟨y, hy⟩ := k
  exact ⟨x - y, by rw [Rat.intCast_sub, ← hx, ← hy]; grind⟩
theorem On.mulI (h : On D a) (k : Int) : On D (a * (k : Rat)) := by
  obtain ⟨x, hx⟩ := h
  exact ⟨x * k, by rw [Rat.intCast_mul, ← hx]; grind⟩
theorem On.int (i : Int) : On D (i : Rat) := ⟨i * D, by rw [Rat.intCast_mul]⟩
theorem On.up (h : On D a) (k : Int) : On (D * k) a := by
  obtain ⟨x, hx⟩ := h
  exact ⟨x * k, by rw [Rat.intCast_mul, Rat.intCast_mul, ← hx]; grind⟩
theorem On.divI (h : On D a) {w : Int} (hw : w ≠ 0) : On (D * w) (a / (w : Rat)) := by
  obtain ⟨x, hx⟩ := h
  have hq : (w : Rat) ≠ 0 := by exact_mod_cast hw
  refine ⟨x, ?_⟩
  have e := Rat.div_mul_cancel (a := a) hq
  rw [Rat.intCast_mul, ← hx]
  grind
theorem on_sz {m : Nat} {X : Int} (h0 : 0 < D) (hD : Bt m D) (h : On D a) (hX : Bt 109 X) (h1 : ((-X : Int) : Rat) ≤ a) (h2 : a ≤ (X : Rat)) (hm : m ≤ 4291) : Sz a := by
  obtain ⟨z, hz⟩ := h
  have dq : (0 : Rat) < (D : Rat) := by exact_mod_cast h0
  have e1 : -(X * D) ≤ z := by
    have : ((-(X * D) : Int) : Rat) ≤ (z : Rat) := by
      rw [← hz]
      have := Rat.mul_le_mul_of_nonneg_right h1 (Rat.le_of_lt dq)
      have e : ((-(X * D) : Int) : Rat) = ((-X : Int) : Rat) * (D : Rat) := by rw [← Rat.intCast_mul, Int.neg_mul]
      rw [e]; exact this
    exact_mod_cast this
  have e2 : z ≤ X * D := by
    have : (z : Rat) ≤ ((X * D : Int) : Rat) := by
      rw [← hz, Rat.intCast_mul]
      exact Rat.mul_le_mul_of_nonneg_right h2 (Rat.le_of_lt dq)
    exact_mod_cast this
  have bz : Bt (109 + m) z := (hX.mul hD).le (by omega)
  have hb : (D : Rat) ≠ 0 := by
    have : D ≠ 0 := by omega
    exact_mod_cast this
  have e : a = Rat.divInt z D := by
    rw [Rat.divInt_eq_div, ← hz]
    grind
  rw [e]
  have dn : D ≠ 0 := by omega
  exact ⟨(bt_num (bz.up (m := 4400) (by omega)) dn), bt_den (hD.up (by omega)) dn⟩
end
def bigX : Int := 9007199254740992
structure TdG (xs : List Rat) (n m : Nat) (t : Td) : Prop where
  ex : ∃ D : Int, 0 < D ∧ Bt (n + 1) D ∧ On D t.mo ∧ On D t.he ∧ (∀ e ∈ t.fl, On D e.1 ∧ On D e.2.1) ∧ (∀ p ∈ t.en, On D p.2) ∧ ∀ x ∈ xs, On D x
  mo : 0 ≤ t.mo ∧ t.mo ≤ (bigX : Rat)
  he : 0 ≤ t.he ∧ t.he ≤ ((m * 1000000 : Int) : Rat)
  fl : ∀ e ∈ t.fl, (0 ≤ e.1 ∧ e.1 ≤ ((m * 1000000 : Int) : Rat)) ∧ (0 ≤ e.2.1 ∧ e.2.1 ≤ ((m * 1000000 : Int) : Rat)) ∧ 1 ≤ e.2.2.1 ∧ e.2.2.1 ≤ 1000000
  en : ∀ p ∈ t.en, 0 ≤ p.2 ∧ p.2 ≤ ((m * 1000000 : Int) : Rat)
  ln : t.fl.length ≤ m
  el : t.en.length ≤ m
abbrev TdZ := TdG []
section
variable {n m : Nat} {t : Td} {xs : List Rat}
theorem TdG.z (h : TdG xs n m t) : TdZ n m t := by
  obtain ⟨D, d0, d1, o1, o2, o3, o4, o5⟩ := h.ex
  exact ⟨⟨D, d0, d1, o1, o2, o3, o4, fun x hx => absurd hx List.not_mem_nil⟩, h.mo, h.he, h.fl, h.en, h.ln, h.el⟩
theorem rle {a b : Int} (h : a ≤ b) : (a : Rat) ≤ (b : Rat) := by exact_mod_cast h
theorem TdG.up (h : TdG xs n m t) {n' : Nat} (l : n ≤ n') : TdG xs n' m t := by
  obtain ⟨D, d0, d1, r⟩ := h.ex
  exact ⟨⟨D, d0, d1.up (by omega), r⟩, h.mo, h.he, h.fl, h.en, h.ln, h.el⟩
/-- small things over D -/
theorem sz_in {D : Int} {a : Rat} (hn : n ≤ 4200) (d0 : 0 < D) (d1 : Bt (n + 1) D) (h : On D a) (h1 : -((4 * bigX * bigX : Int) : Rat) ≤ a) (h2 : a ≤ ((4 * bigX * bigX : Int) : Rat)) : Sz a := by
  refine on_sz (m := n + 28) (X := 4 * bigX * bigX) d0 (d1.up (by omega)) h (by unfold bigX Bt; decide) ?_ h2 (by omega)
  rw [Rat.intCast_neg]; exact h1
theorem mem_hds {e : Fe} : e ∈ hds t ↔ e ∈ t.fl ∧ ¬ t.he < e.1 ∧ t.he < e.2.1 := by
  unfold hds isHd
  rw [List.mem_filter]
  simp
theorem whS_bd : ∀ {hs : List Fe}, (∀ e ∈ hs, 1 ≤ e.2.2.1 ∧ e.2.2.1 ≤ 1000000) → (hs.length : Int) ≤ whS hs ∧ whS hs ≤ hs.length * 1000000
  | [], _ => by unfold whS; simp
  | e :: hs, h => by
    obtain ⟨i1, i2⟩ := whS_bd (hs := hs) fun x hx => h x (List.mem_cons_of_mem _ hx)
    obtain ⟨h1, h2⟩ := h e List.mem_cons_self
    unfold whS at i1 i2 ⊢
    rw [List.map_cons, List.sum_cons, List.length_cons]
    push_cast
    omega
theorem near_mem : ∀ {hs : List Fe} {b : Rat}, hs.foldl nrS b = b ∨ ∃ e ∈ hs, hs.foldl nrS b = e.2.1
  | [], b => .inl rfl
  | e :: hs, b => by
    rw [List.foldl_cons]
    rcases near_mem (hs := hs) (b := nrS b e) with h | ⟨x, hx, h⟩
    · rw [h]
      unfold nrS
      split
      · exact .inr ⟨e, List.mem_cons_self, rfl⟩
      · exact .inl rfl
    · exact .inr ⟨x, List.mem_cons_of_mem _ hx, h⟩
theorem near_least : ∀ {hs : List Fe} {b : Rat}, hs.foldl nrS b ≤ b ∧ ∀ e ∈ hs, hs.foldl nrS b ≤ e.2.1
  | [], b => ⟨Rat.le_refl, fun e he => absurd he List.not_mem_nil⟩
  | e :: hs, b => by
    rw [List.foldl_cons]
    obtain ⟨h1, h2⟩ := near_least (hs := hs) (b := nrS b e)
    have h3 : nrS b e ≤ b ∧ nrS b e ≤ e.2.1 := by
      unfold nrS
      split
      · exact ⟨by grind, Rat.le_refl⟩
      · exact ⟨Rat.le_refl, by grind⟩
    refine ⟨Rat.le_trans h1 h3.1, fun x hx => ?_⟩
    rcases List.mem_cons.mp hx with z | z
    · subst z; exact Rat.le_trans h1 h3.2
    · exact h2 x z
theorem nearH_mem {hs : List Fe} (h : hs ≠ []) : (∃ e ∈ hs, nearH hs = e.2.1) ∧ ∀ e ∈ hs, nearH hs ≤ e.2.1 := by
  cases hs with
  | nil => exact absurd rfl h
  | cons e hs =>
    unfold nearH
    show (∃ x ∈ e :: hs, (e :: hs).foldl nrS e.2.1 = x.2.1) ∧ _
    refine ⟨?_, near_least.2⟩
    rcases near_mem (hs := e :: hs) (b := e.2.1) with h | h
    · exact ⟨e, List.mem_cons_self, h⟩
    · exact h
/-- how many have not ended -/
def alive (t : Td) : Nat := t.fl.countP fun e => decide (t.he < e.2.1)
theorem cntP_lt {α : Type} {p q : α → Bool} : ∀ {l : List α}, (∀ x ∈ l, p x = true → q x = true) → (∃ x ∈ l, p x = false ∧ q x = true) → l.countP p < l.countP q
  | [], _, ⟨x, hx, _⟩ => absurd hx List.not_mem_nil
  | x :: l, h, ⟨y, hy, hp, hq⟩ => by
    have hle : l.countP p ≤ l.countP q := List.countP_mono_left fun z hz => h z (List.mem_cons_of_mem _ hz)
    rw [List.countP_cons, List.countP_cons]
    rcases List.mem_cons.mp hy with z | z
    · subst z
      rw [hp, hq]
      simp
      omega
    · have ih := cntP_lt (l := l) (fun z hz => h z (List.mem_cons_of_mem _ hz)) ⟨y, z, hp, hq⟩
      have := h x List.mem_cons_self
      split <;> rename_i h1
      · rw [if_pos (this h1)]; omega
      · split <;> omega
/-- what is so while something flows -/
structure Flw (n m : Nat) (t : Td) : Prop where
  w1 : 1 ≤ whS (hds t)
  w2 : whS (hds t) ≤ 63000000
  nr : ∃ e ∈ hds t, nearH (hds t) = e.2.1
  lt : t.he < nearH (hds t)
  le : nearH (hds t) ≤ ((m * 1000000 : Int) : Rat)
  up : t.mo < reach t
theorem TdG.flw (h : TdG xs n m t) (hm : m ≤ 63) (hn : hds t ≠ []) : Flw n m t := by
  obtain ⟨⟨e, he, ee⟩, _⟩ := nearH_mem hn
  obtain ⟨b1, b2⟩ := whS_bd (hs := hds t) fun x hx => (h.fl x (mem_hds.mp hx).1).2.2
  have hl : (hds t).length ≤ 63 := by
    have : (hds t).length ≤ t.fl.length := by unfold hds; exact List.length_filter_le ..
    have := h.ln
    omega
  have hl0 : 0 < (hds t).length := List.length_pos_iff.mpr hn
  obtain ⟨m1, m2, m3⟩ := mem_hds.mp he
  have lt : t.he < nearH (hds t) := by rw [ee]; exact m3
  have w1 : 1 ≤ whS (hds t) := by omega
  refine ⟨w1, by omega, ⟨e, he, ee⟩, lt, by rw [ee]; exact (h.fl e m1).2.1.2, ?_⟩
  have wq : (0 : Rat) < (whS (hds t) : Rat) := by
    have : 0 < whS (hds t) := by omega
    exact_mod_cast this
  have := Rat.mul_pos (a := nearH (hds t) - t.he) (b := (whS (hds t) : Rat)) (by grind) wq
  unfold reach
  grind
theorem goT_fl (lim : Option Rat) : (goT t lim).fl = t.fl ∧ (goT t lim).en = t.en ∧ (goT t lim).mn = t.mn := by
  unfold goT
  split
  · exact ⟨rfl, rfl, rfl⟩
  · split <;> exact ⟨rfl, rfl, rfl⟩
/-- sizes that a step looks at -/
structure GoZ (t : Td) : Prop where
  mo : Sz t.mo
  he : Sz t.he
  d : Sz (nearH (hds t) - t.he)
  w : Sz (whS (hds t) : Rat)
  nr : Sz (nearH (hds t))
  p : Sz ((nearH (hds t) - t.he) * (whS (hds t) : Rat))
  re : Sz (reach t)
  fe : ∀ e ∈ t.fl, Sz e.1 ∧ Sz e.2.1
theorem bigm (hm : m ≤ 63) {a : Rat} (h : 0 ≤ a ∧ a ≤ ((m * 1000000 : Int) : Rat)) : -((4 * bigX * bigX : Int) : Rat) ≤ a ∧ a ≤ ((4 * bigX * bigX : Int) : Rat) := by
  have h1 : ((m * 1000000 : Int) : Rat) ≤ ((4 * bigX * bigX : Int) : Rat) := rle (by unfold bigX; omega)
  have h2 : (0 : Rat) ≤ ((4 * bigX * bigX : Int) : Rat) := rle (a := 0) (by unfold bigX; decide)
  grind
theorem bigo {a : Rat} (h : 0 ≤ a ∧ a ≤ (bigX : Rat)) : -((4 * bigX * bigX : Int) : Rat) ≤ a ∧ a ≤ ((4 * bigX * bigX : Int) : Rat) := by
  have h1 : (bigX : Rat) ≤ ((4 * bigX * bigX : Int) : Rat) := rle (by unfold bigX; decide)
  have h2 : (0 : Rat) ≤ ((4 * bigX * bigX : Int) : Rat) := rle (a := 0) (by unfold bigX; decide)
  grind
theorem TdG.fz (h : TdG xs n m t) (hn : n ≤ 4200) (hm : m ≤ 63) : (∀ e ∈ t.fl, Sz e.1 ∧ Sz e.2.1) ∧ Sz t.mo ∧ Sz t.he ∧ ∀ p ∈ t.en, Sz p.2 := by
  obtain ⟨D, d0, d1, o1, o2, o3, o4, o5⟩ := h.ex
  have S : ∀ {a : Rat}, On D a → -((4 * bigX * bigX : Int) : Rat) ≤ a ∧ a ≤ ((4 * bigX * bigX : Int) : Rat) → Sz a := fun ho hb => sz_in hn d0 d1 ho hb.1 hb.2
  exact ⟨fun e he => ⟨S (o3 e he).1 (bigm hm (h.fl e he).1), S (o3 e he).2 (bigm hm (h.fl e he).2.1)⟩, S o1 (bigo h.mo), S o2 (bigm hm h.he), fun p hp => S (o4 p hp) (bigm hm (h.en p hp))⟩
theorem TdG.gz (h : TdG xs n m t) (hn : n ≤ 4200) (hm : m ≤ 63) (hne : hds t ≠ []) : GoZ t := by
  obtain ⟨D, d0, d1, o1, o2, o3, o4, o5⟩ := h.ex
  have f := h.flw hm hne
  have S : ∀ {a : Rat}, On D a → -((4 * bigX * bigX : Int) : Rat) ≤ a ∧ a ≤ ((4 * bigX * bigX : Int) : Rat) → Sz a := fun ho hb => sz_in hn d0 d1 ho hb.1 hb.2
  obtain ⟨e, he, ee⟩ := f.nr
  have me := (mem_hds.mp he).1
  have on : On D (nearH (hds t)) := by rw [ee]; exact (o3 e me).2
  have bn := (h.fl e me).2.1
  rw [← ee] at bn
  have w1 := f.w1
  have w2 := f.w2
  have lt := f.lt
  have h1 := h.he.1
  have wq0 : (0 : Rat) ≤ (whS (hds t) : Rat) := rle (a := 0) (by omega)
  have wq1 : (whS (hds t) : Rat) ≤ ((63000000 : Int) : Rat) := rle w2
  have X0 : (0 : Rat) ≤ ((4 * bigX * bigX : Int) : Rat) := rle (a := 0) (by unfold bigX; decide)
  have M1 : ((m * 1000000 : Int) : Rat) ≤ ((63000000 : Int) : Rat) := rle (by omega)
  have dl : 0 ≤ nearH (hds t) - t.he ∧ nearH (hds t) - t.he ≤ ((63000000 : Int) : Rat) := by grind
  have pl : 0 ≤ (nearH (hds t) - t.he) * (whS (hds t) : Rat) ∧ (nearH (hds t) - t.he) * (whS (hds t) : Rat) ≤ ((63000000 * 63000000 : Int) : Rat) := by
    refine ⟨Rat.mul_nonneg dl.1 wq0, ?_⟩
    have a1 := Rat.mul_le_mul_of_nonneg_left wq1 dl.1
    have a2 := Rat.mul_le_mul_of_nonneg_right dl.2 (show (0 : Rat) ≤ ((63000000 : Int) : Rat) from rle (a := 0) (by decide))
    rw [Rat.intCast_mul]
    exact Rat.le_trans a1 a2
  have P1 : ((63000000 * 63000000 : Int) : Rat) ≤ ((bigX * bigX : Int) : Rat) := rle (by unfold bigX; decide)
  have P2 : ((63000000 : Int) : Rat) ≤ ((bigX * bigX : Int) : Rat) := rle (by unfold bigX; decide)
  have P3 : ((bigX * bigX : Int) : Rat) + ((bigX * bigX : Int) : Rat) ≤ ((4 * bigX * bigX : Int) : Rat) := by
    rw [← Rat.intCast_add]; exact rle (by unfold bigX; decide)
  have P4 : (bigX : Rat) ≤ ((bigX * bigX : Int) : Rat) := rle (by unfold bigX; decide)
  have P0 : (0 : Rat) ≤ ((bigX * bigX : Int) : Rat) := rle (a := 0) (by unfold bigX; decide)
  have mo := h.mo
  obtain ⟨z1, z2, z3, z4⟩ := h.fz hn hm
  refine ⟨z2, z3, S (on.sub o2) (by grind), Sz.int ((show Bt 30 (whS (hds t)) by unfold Bt; omega).up (by decide)), S on (bigm hm bn), S ((on.sub o2).mulI _) (by grind), ?_, z1⟩
  unfold reach
  exact S (o1.add ((on.sub o2).mulI _)) (by grind)
theorem TdG.step (h : TdG xs n m t) (hm : m ≤ 63) {L : Int} (hL : t.mo < (L : Rat)) (hX : L ≤ bigX) : ((goT t (some (L : Rat))).mo = (L : Rat) ∧ TdG xs (n + 26) m (goT t (some (L : Rat)))) ∨ (alive (goT t (some (L : Rat))) < alive t ∧ (goT t (some (L : Rat))).mo ≤ (L : Rat) ∧ TdG xs n m (goT t (some (L : Rat)))) := by
  obtain ⟨D, d0, d1, o1, o2, o3, o4, o5⟩ := h.ex
  have mo := h.mo
  have XL : (L : Rat) ≤ (bigX : Rat) := rle hX
  by_cases hne : hds t = []
  · have e : goT t (some (L : Rat)) = { t with mo := (L : Rat) } := by unfold goT; rw [if_pos hne]; rfl
    rw [e]
    refine .inl ⟨rfl, ⟨D, d0, d1.up (by omega), On.int L, o2, o3, o4, o5⟩, ⟨by dsimp only; grind, XL⟩, h.he, h.fl, h.en, h.ln, h.el⟩
  · have f := h.flw hm hne
    obtain ⟨x, hx, ex⟩ := f.nr
    have mx := (mem_hds.mp hx).1
    have on : On D (nearH (hds t)) := by rw [ex]; exact (o3 x mx).2
    have w1 := f.w1
    have w2 := f.w2
    have wq : (0 : Rat) < (whS (hds t) : Rat) := by
      have : 0 < whS (hds t) := by omega
      exact_mod_cast this
    have lt := f.lt
    have hh := h.he
    have le := f.le
    by_cases hc : (L : Rat) < reach t
    · have e : goT t (some (L : Rat)) = { t with he := t.he + ((L : Rat) - t.mo) / (whS (hds t) : Rat), mo := (L : Rat) } := by
        unfold goT; rw [if_neg hne, if_pos (show cutB t (some (L : Rat)) = true from decide_eq_true hc)]; rfl
      rw [e]
      have e1 : ((L : Rat) - t.mo) / (whS (hds t) : Rat) * (whS (hds t) : Rat) = (L : Rat) - t.mo := Rat.div_mul_cancel (by grind)
      have q0 : 0 ≤ ((L : Rat) - t.mo) / (whS (hds t) : Rat) := by
        refine Rat.not_lt.mp fun z => ?_
        have := Rat.mul_pos (a := -(((L : Rat) - t.mo) / (whS (hds t) : Rat))) (b := (whS (hds t) : Rat)) (by grind) wq
        grind
      have q1 : ((L : Rat) - t.mo) / (whS (hds t) : Rat) ≤ nearH (hds t) - t.he := by
        refine Rat.not_lt.mp fun z => ?_
        have := Rat.mul_pos (a := ((L : Rat) - t.mo) / (whS (hds t) : Rat) - (nearH (hds t) - t.he)) (b := (whS (hds t) : Rat)) (by grind) wq
        unfold reach at hc
        grind
      have bw : Bt 26 (whS (hds t)) := by unfold Bt; omega
      refine .inl ⟨rfl, ⟨D * whS (hds t), Int.mul_pos d0 (by omega), (d1.mul bw).up (by omega), On.int L, (o2.up _).add ((((On.int L).sub o1)).divI (by omega)), fun y hy => ⟨(o3 y hy).1.up _, (o3 y hy).2.up _⟩, fun p hp => (o4 p hp).up _, fun x hx => (o5 x hx).up _⟩, ⟨by dsimp only; grind, XL⟩, ⟨by dsimp only; grind, by dsimp only; grind⟩, h.fl, h.en, h.ln, h.el⟩
    · have e : goT t (some (L : Rat)) = { t with he := nearH (hds t), mo := reach t } := by
        unfold goT; rw [if_neg hne, if_neg (show ¬ cutB t (some (L : Rat)) = true from fun z => hc (of_decide_eq_true z))]
      rw [e]
      have up := f.up
      have orr : On D (reach t) := by unfold reach; exact o1.add ((on.sub o2).mulI _)
      refine .inr ⟨?_, by dsimp only; grind, ⟨D, d0, d1, orr, on, o3, o4, o5⟩, ⟨by dsimp only; grind, by dsimp only; grind⟩, ⟨by dsimp only; grind, le⟩, h.fl, h.en, h.ln, h.el⟩
      unfold alive
      refine cntP_lt (fun y hy hp => ?_) ⟨x, mx, ?_, ?_⟩
      · simp only [decide_eq_true_eq] at hp ⊢
        grind
      · simp only [decide_eq_false_iff_not]
        rw [ex]; exact Rat.lt_irrefl
      · simp only [decide_eq_true_eq]
        exact (mem_hds.mp hx).2.2
theorem rk_stop {L : Rat} {s : Td × List Str3} (h : ¬ s.1.mo < L) : ∀ k, rk L k s = s
  | 0 => rfl
  | k + 1 => by
    show (if s.1.mo < L then _ else s) = s
    rw [if_neg h]
theorem rk_step {L : Rat} {s : Td × List Str3} (h : s.1.mo < L) (k : Nat) : rk L (k + 1) s = rk L k (goT s.1 (some L), s.2 ++ (goR s.1 (some L)).toList) := by
  show (if s.1.mo < L then _ else s) = _
  rw [if_pos h]
structure RzG (xs : List Rat) (n m : Nat) (L : Int) (t t' : Td) : Prop where
  no : ¬ t'.mo < (L : Rat)
  z : TdG xs (n + 26) m t'
  fl : t'.fl = t.fl
  en : t'.en = t.en
  mn : t'.mn = t.mn
  mo : t.mo ≤ (L : Rat) → t'.mo = (L : Rat)
theorem rk_z (hm : m ≤ 63) {L : Int} (hX : L ≤ bigX) : ∀ (k : Nat) (s : Td × List Str3), (s.1.mo < (L : Rat) → alive s.1 < k) → (TdG xs n m s.1 ∨ (¬ s.1.mo < (L : Rat) ∧ TdG xs (n + 26) m s.1)) → RzG xs n m L s.1 (rk (L : Rat) k s).1
  | 0, s, h, hz => by
    have hn : ¬ s.1.mo < (L : Rat) := fun z => absurd (h z) (Nat.not_lt_zero _)
    refine ⟨hn, ?_, rfl, rfl, rfl, fun l => ?_⟩
    · rcases hz with z | z
      · exact z.up (by omega)
      · exact z.2
    · show s.1.mo = _
      grind
  | k + 1, s, h, hz => by
    by_cases hlt : s.1.mo < (L : Rat)
    · rw [rk_step hlt]
      have hk := h hlt
      have hz : TdG xs n m s.1 := by
        rcases hz with z | z
        · exact z
        · exact absurd hlt z.1
      obtain ⟨e1, e2, e3⟩ := goT_fl (t := s.1) (some (L : Rat))
      have r := rk_z hm hX k (goT s.1 (some (L : Rat)), s.2 ++ (goR s.1 (some (L : Rat))).toList) (by
        intro z
        rcases hz.step hm hlt hX with w | w
        · rw [w.1] at z; exact absurd z Rat.lt_irrefl
        · have := w.1
          dsimp only
          omega) (by
        rcases hz.step hm hlt hX with w | w
        · exact .inr ⟨by dsimp only; rw [w.1]; exact Rat.lt_irrefl, w.2⟩
        · exact .inl w.2.2)
      dsimp only at r
      refine ⟨r.no, r.z, r.fl.trans e1, r.en.trans e2, r.mn.trans e3, fun _ => r.mo ?_⟩
      rcases hz.step hm hlt hX with w | w
      · rw [w.1]; exact Rat.le_refl
      · exact w.2.1
    · rw [rk_stop hlt]
      refine ⟨hlt, ?_, rfl, rfl, rfl, fun l => ?_⟩
      · rcases hz with z | z
        · exact z.up (by omega)
        · exact z.2
      · grind
theorem alive_le : alive t ≤ t.fl.length := List.countP_le_length
theorem rise_z (h : TdG xs n m t) (hm : m ≤ 63) {L : Int} (hX : L ≤ bigX) : RzG xs n m L t (rise t (L : Rat)).1 := by
  unfold rise
  exact rk_z hm hX _ (t, []) (fun _ => Nat.lt_succ_of_le alive_le) (.inl h)
theorem rise_no {L : Rat} (h : ¬ t.mo < L) : rise t L = (t, []) := by
  unfold rise
  exact rk_stop h _
theorem divI_on {D : Int} {l s : Int} (h : 0 < s) : On (D * s) (Rat.divInt l s) := by
  have hq : (s : Rat) ≠ 0 := by
    have : s ≠ 0 := by omega
    exact_mod_cast this
  refine ⟨l * D, ?_⟩
  have e := Rat.div_mul_cancel (a := (l : Rat)) hq
  rw [Rat.divInt_eq_div, Rat.intCast_mul, Rat.intCast_mul]
  grind
theorem divI_bd {l s : Int} (h0 : 0 ≤ l) (h : 1 ≤ s) : 0 ≤ Rat.divInt l s ∧ Rat.divInt l s ≤ (l : Rat) := by
  have hq : (0 : Rat) < (s : Rat) := by
    have : 0 < s := by omega
    exact_mod_cast this
  have e := Rat.div_mul_cancel (a := (l : Rat)) (b := (s : Rat)) (by grind)
  have l0 : (0 : Rat) ≤ (l : Rat) := rle (a := 0) h0
  have s1 : (1 : Rat) ≤ (s : Rat) := rle (a := 1) h
  rw [Rat.divInt_eq_div]
  have p0 : 0 ≤ (l : Rat) / (s : Rat) := by
    refine Rat.not_lt.mp fun z => ?_
    have := Rat.mul_pos (a := -((l : Rat) / (s : Rat))) (b := (s : Rat)) (by grind) hq
    grind
  refine ⟨p0, ?_⟩
  have := Rat.mul_le_mul_of_nonneg_left s1 p0
  grind
theorem getD_mem {β : Type} {k : Int} {y : β} : ∀ {l : List (Int × β)}, getD k l = some y → ∃ p ∈ l, p.2 = y
  | [], h => by cases h
  | (i, z) :: l, h => by
    have h : (if i = k then some z else getD k l) = some y := h
    split at h
    · cases h; exact ⟨_, List.mem_cons_self, rfl⟩
    · obtain ⟨p, hp, e⟩ := getD_mem h
      exact ⟨p, List.mem_cons_of_mem _ hp, e⟩
theorem mem_putD {β : Type} {k : Int} {y : β} {l : List (Int × β)} {p : Int × β} (h : p ∈ putD l k y) : p.2 = y ∨ p ∈ l := by
  unfold putD at h
  split at h
  · obtain ⟨q, hq, e⟩ := List.mem_map.mp h
    split at e
    · subst e; exact .inl rfl
    · subst e; exact .inr hq
  · rcases List.mem_append.mp h with h | h
    · exact .inr h
    · rw [List.mem_singleton.mp h]; exact .inl rfl
theorem getD_bd (h : TdG xs n m t) (who : Int) : (0 ≤ ((getD who t.en).getD 0) ∧ ((getD who t.en).getD 0) ≤ ((m * 1000000 : Int) : Rat)) ∧ ∀ D : Int, (∀ p ∈ t.en, On D p.2) → On D ((getD who t.en).getD 0) := by
  cases e : getD who t.en with
  | none => exact ⟨⟨Rat.le_refl, rle (a := 0) (by omega)⟩, fun D _ => On.int 0⟩
  | some y =>
    obtain ⟨p, hp, ep⟩ := getD_mem e
    subst ep
    exact ⟨h.en p hp, fun D hD => hD p hp⟩
theorem begT_bd (h : TdG xs n m t) (who : Int) : (0 ≤ begT t who ∧ begT t who ≤ ((m * 1000000 : Int) : Rat)) ∧ ∀ D : Int, On D t.he → (∀ p ∈ t.en, On D p.2) → On D (begT t who) := by
  obtain ⟨g1, g2⟩ := getD_bd h who
  unfold begT gtr2
  split
  · exact ⟨g1, fun D _ hD => g2 D hD⟩
  · exact ⟨h.he, fun D hD _ => hD⟩
theorem TdG.addT (h : TdG xs n m t) {who len sh : Int} (hl : 1 ≤ len ∧ len ≤ 1000000) (hs : 1 ≤ sh ∧ sh ≤ 1000000) : TdG (xs ++ [begT t who, begT t who + Rat.divInt len sh]) (n + 20) (m + 1) (addT t who len sh) := by
  obtain ⟨D, d0, d1, o1, o2, o3, o4, o5⟩ := h.ex
  obtain ⟨⟨b1, b2⟩, b3⟩ := begT_bd h who
  have b3 := b3 D o2 o4
  obtain ⟨q1, q2⟩ := divI_bd (l := len) (s := sh) (by omega) hs.1
  have ql : (len : Rat) ≤ ((1000000 : Int) : Rat) := rle hl.2
  have MM : ((m * 1000000 : Int) : Rat) + ((1000000 : Int) : Rat) = ((((m + 1 : Nat) : Int) * 1000000 : Int) : Rat) := by
    rw [← Rat.intCast_add]
    exact congrArg (fun z : Int => (z : Rat)) (show (m : Int) * 1000000 + 1000000 = ((m + 1 : Nat) : Int) * 1000000 by omega)
  have M0 : (0 : Rat) ≤ ((1000000 : Int) : Rat) := rle (a := 0) (by decide)
  have on2 : On (D * sh) (begT t who + Rat.divInt len sh) := (b3.up _).add (divI_on (by omega))
  have bs : Bt 20 sh := by unfold Bt; omega
  have lf := List.length_filter_le (fun e : Fe => decide (t.he < e.2.1)) t.fl
  have h1 := h.ln
  have h2 := len_putD t.en who (begT t who + Rat.divInt len sh)
  have h3 := h.el
  refine ⟨⟨D * sh, Int.mul_pos d0 (by omega), (d1.mul bs).up (by omega), o1.up _, o2.up _, fun e he => ?_, fun p hp => ?_, fun x hx => ?_⟩, h.mo, ⟨h.he.1, ?_⟩, fun e he => ?_, fun p hp => ?_, ?_, ?_⟩
  · rcases List.mem_append.mp he with z | z
    · exact ⟨(o3 e (List.mem_filter.mp z).1).1.up _, (o3 e (List.mem_filter.mp z).1).2.up _⟩
    · rw [List.mem_singleton.mp z]; exact ⟨b3.up _, on2⟩
  · rcases mem_putD hp with z | z
    · rw [z]; exact on2
    · exact (o4 p z).up _
  · rcases List.mem_append.mp hx with z | z
    · exact (o5 x z).up _
    · rcases List.mem_cons.mp z with z | z
      · rw [z]; exact b3.up _
      · rw [List.mem_singleton.mp z]; exact on2
  · have := h.he.2
    show t.he ≤ _
    grind
  · rcases List.mem_append.mp he with z | z
    · obtain ⟨x1, x2, x3⟩ := h.fl e (List.mem_filter.mp z).1
      exact ⟨⟨x1.1, by grind⟩, ⟨x2.1, by grind⟩, x3⟩
    · rw [List.mem_singleton.mp z]
      exact ⟨⟨b1, by dsimp only; grind⟩, ⟨by dsimp only; grind, by dsimp only; grind⟩, hs⟩
  · rcases mem_putD hp with z | z
    · rw [z]; exact ⟨by grind, by grind⟩
    · have := h.en p z
      exact ⟨this.1, by grind⟩
  · show (t.fl.filter _ ++ [_]).length ≤ _
    rw [List.length_append, List.length_singleton]; omega
  · show (putD t.en who _).length ≤ _
    omega
end
section
variable {K : PySem.W.Frag}
def dHd (e : Fe) : PyData := .tuple [.tuple [.int e.2.1.num, .int e.2.1.den], .int e.2.2.1, .int e.2.2.2]
theorem hd_is (e : Fe) : IsD K (HdA K e) (dHd e) := isd_tup ⟨kd_fq.is _, isd_int, isd_int, trivial⟩
theorem hd_gd (e : Fe) : Gd 2 (dHd e) := ⟨rfl, Nat.le_of_eq rfl⟩
/-- more said of fields -/
def Fimp (F : Hp) : List (Str × As) → List (Str × As) → Prop
  | [], [] => True
  | (f, R) :: fs, (g, S) :: gs => f = g ∧ (∀ v, R.p F v → S.p F v) ∧ Fimp F fs gs
  | _, _ => False
theorem AllF.imp {F : Hp} : ∀ {fs gs : List (Str × As)} {vs : List (Str × V)}, AllF F fs vs → Fimp F fs gs → AllF F gs vs
  | [], [], [], _, _ => trivial
  | (f, R) :: fs, (g, S) :: gs, (f', v) :: vs, h, k => by
    obtain ⟨h1, h2, h3⟩ := h
    obtain ⟨k1, k2, k3⟩ := k
    exact ⟨k1.symm.trans h1, k2 v h2, AllF.imp h3 k3⟩
  | [], [], _ :: _, h, _ => h.elim
  | _ :: _, _, [], h, _ => h.elim
  | [], _ :: _, _, _, k => k.elim
  | _ :: _, [], _, _, k => k.elim
abbrev enA (K : PySem.W.Frag) (l : List (Int × Rat)) : List (Int × As) := l.map fun p => (p.1, Fq K p.2)
abbrev tO (C : Str → Addr) (K : PySem.W.Frag) (p dx d : Addr) (t : Td) : Addr × OA := (p, oI (C "Tide") dx (tF K t d))
/-- the same but for what a mark does not need -/
structure Alk (s t : Td) : Prop where
  mo : s.mo = t.mo
  he : s.he = t.he
  fl : s.fl = t.fl
theorem Alk.goT {s t : Td} (h : Alk s t) (lim : Option Rat) : Alk (goT s lim) (goT t lim) := by
  have e1 : hds s = hds t := by unfold hds; rw [h.fl, h.he]
  have e2 : reach s = reach t := by unfold reach; rw [h.mo, h.he, e1]
  have e3 : cutB s lim = cutB t lim := by cases lim with | none => rfl | some L => show decide _ = decide _; rw [e2]
  unfold Y.goT
  rw [e1, e3, e2, h.he, h.mo]
  split
  · exact ⟨rfl, rfl, h.fl⟩
  · split
    · exact ⟨rfl, rfl, h.fl⟩
    · exact ⟨rfl, rfl, h.fl⟩
theorem Alk.rk {L : Rat} : ∀ (k : Nat) {s t : Td × List Str3}, Alk s.1 t.1 → Alk (rk L k s).1 (rk L k t).1
  | 0, _, _, h => h
  | k + 1, s, t, h => by
    by_cases z : s.1.mo < L
    · rw [rk_step z, rk_step (by rw [← h.mo]; exact z)]
      exact Alk.rk k (h.goT _)
    · rw [rk_stop z, rk_stop (by rw [← h.mo]; exact z)]
      exact h
theorem Alk.rise {s t : Td} (h : Alk s t) (L : Rat) : Alk (rise s L).1 (rise t L).1 := by
  unfold Y.rise
  rw [h.fl]
  exact Alk.rk _ h
/-- what the limit must be -/
structure LmZ (n m : Nat) (t : Td) (lim : Option Rat) : Prop where
  z : TdZ n m t
  n : n ≤ 4100
  m : m ≤ 63
  ne : hds t = [] → lim ≠ none
  li : ∀ L, lim = some L → ∃ i : Int, L = (i : Rat) ∧ i ≤ bigX ∧ t.mo < (i : Rat)
theorem LmZ.lz {n m : Nat} {t : Td} {lim : Option Rat} (h : LmZ n m t lim) {L : Rat} (e : lim = some L) : Sz L ∧ Sz (L - t.mo) ∧ (hds t ≠ [] → Sz ((L - t.mo) / (whS (hds t) : Rat))) := by
  obtain ⟨i, e1, hi, hlt⟩ := h.li L e
  subst e1
  obtain ⟨D, d0, d1, o1, o2, o3, o4, o5⟩ := h.z.ex
  have mo := h.z.mo
  have hn := h.n
  have XL : (i : Rat) ≤ (bigX : Rat) := rle hi
  have B1 : 0 ≤ (i : Rat) ∧ (i : Rat) ≤ (bigX : Rat) := by grind
  have B2 : 0 ≤ (i : Rat) - t.mo ∧ (i : Rat) - t.mo ≤ (bigX : Rat) := by grind
  obtain ⟨x1, x2⟩ := bigo B1
  obtain ⟨y1, y2⟩ := bigo B2
  refine ⟨sz_in (n := n) (by omega) d0 d1 (On.int i) x1 x2, sz_in (n := n) (by omega) d0 d1 ((On.int i).sub o1) y1 y2, fun hne => ?_⟩
  have f := h.z.flw h.m hne
  have w1 := f.w1
  have w2 := f.w2
  have wq : (0 : Rat) < (whS (hds t) : Rat) := by
    have : 0 < whS (hds t) := by omega
    exact_mod_cast this
  have wq1 : (1 : Rat) ≤ (whS (hds t) : Rat) := rle (a := 1) w1
  have e1 : ((i : Rat) - t.mo) / (whS (hds t) : Rat) * (whS (hds t) : Rat) = (i : Rat) - t.mo := Rat.div_mul_cancel (by grind)
  have q0 : 0 ≤ ((i : Rat) - t.mo) / (whS (hds t) : Rat) := by
    refine Rat.not_lt.mp fun z => ?_
    have := Rat.mul_pos (a := -(((i : Rat) - t.mo) / (whS (hds t) : Rat))) (b := (whS (hds t) : Rat)) (by grind) wq
    grind
  have q1 : ((i : Rat) - t.mo) / (whS (hds t) : Rat) ≤ (i : Rat) - t.mo := by
    have := Rat.mul_le_mul_of_nonneg_left wq1 q0
    grind
  obtain ⟨z1, z2⟩ := bigo (a := ((i : Rat) - t.mo) / (whS (hds t) : Rat)) ⟨q0, by grind⟩
  have bw : Bt 26 (whS (hds t)) := by unfold Bt; omega
  exact sz_in (n := n + 26) (by omega) (Int.mul_pos d0 (by omega)) ((d1.mul bw).up (by omega)) (((On.int i).sub o1).divI (by omega)) z1 z2
end

section
variable {K : PySem.W.Frag} {n m : Nat} {t : Td}
theorem come_x {xs : List Rat} (h : TdG xs n m t) {at' who len sh : Int} (hm : m ≤ 62) (ha : at' ≤ bigX) (hl : 1 ≤ len ∧ len ≤ 1000000) (hs : 1 ≤ sh ∧ sh ≤ 1000000) : TdG (xs ++ [tag1 t at' who, tag2 t at' who len sh]) (n + 46) (m + 1) (comeT t at' who len sh) := by
  have e : comeT t at' who len sh = addT (rise t (at' : Rat)).1 who len sh := by unfold Y.comeT; rfl
  have et1 : tag1 t at' who = begT (rise t (at' : Rat)).1 who := by unfold tag1; rfl
  have et2 : tag2 t at' who len sh = begT (rise t (at' : Rat)).1 who + Rat.divInt len sh := by unfold tag2; rw [et1]
  rw [e, et1, et2]
  exact ((rise_z h (by omega) ha).z.addT (who := who) hl hs)
theorem come_z (h : TdZ n m t) {at' who len sh : Int} (hm : m ≤ 62) (ha : at' ≤ bigX) (hl : 1 ≤ len ∧ len ≤ 1000000) (hs : 1 ≤ sh ∧ sh ≤ 1000000) : TdZ (n + 46) (m + 1) (comeT t at' who len sh) := by
  have e : comeT t at' who len sh = addT (rise t (at' : Rat)).1 who len sh := by unfold Y.comeT; rfl
  rw [e]
  exact ((rise_z h (by omega) ha).z.addT (who := who) hl hs).z
theorem tag_mem {at' who len sh : Int} : ∃ mn, (tag1 t at' who, tag2 t at' who len sh, sh, mn) ∈ (comeT t at' who len sh).fl := by
  have e : comeT t at' who len sh = addT (rise t (at' : Rat)).1 who len sh := by unfold Y.comeT; rfl
  have et1 : tag1 t at' who = begT (rise t (at' : Rat)).1 who := by unfold tag1; rfl
  have et2 : tag2 t at' who len sh = begT (rise t (at' : Rat)).1 who + Rat.divInt len sh := by unfold tag2; rw [et1]
  rw [e, et1, et2]
  exact ⟨_, List.mem_append_right _ (List.mem_singleton.mpr rfl)⟩
theorem come_en {at' who len sh : Int} (h : TdZ n m t) (hm : m ≤ 62) (ha : at' ≤ bigX) : (comeT t at' who len sh).en = putD t.en who (tag2 t at' who len sh) := by
  have e : comeT t at' who len sh = addT (rise t (at' : Rat)).1 who len sh := by unfold Y.comeT; rfl
  have et1 : tag1 t at' who = begT (rise t (at' : Rat)).1 who := by unfold tag1; rfl
  have et2 : tag2 t at' who len sh = begT (rise t (at' : Rat)).1 who + Rat.divInt len sh := by unfold tag2; rw [et1]
  rw [e, et2, ← (rise_z h (by omega) ha).en]
  rfl
def begL (es : List (Int × Rat)) (mk : Rat) (who : Int) : Rat := if hasD who es then gtr2 mk ((getD who es).getD 0) else mk
theorem tag1_is {at' who : Int} (h : TdZ n m t) (hm : m ≤ 62) (ha : at' ≤ bigX) : tag1 t at' who = begL t.en (rise t (at' : Rat)).1.he who := by
  have r := rise_z h (by omega) ha
  have h0 := r.z.he.1
  unfold tag1 begT begL
  rw [r.en, hasD_get]
  cases getD who t.en with
  | none =>
    show gtr2 _ 0 = _
    unfold gtr2
    rw [if_neg (by grind)]; rfl
  | some y => rfl
theorem mark_same {at' who len sh : Int} (h : TdZ n m t) (hm : m ≤ 62) (ha : at' ≤ bigX) : (rise (comeT t at' who len sh) (at' : Rat)).1.he = (rise t (at' : Rat)).1.he := by
  have e : comeT t at' who len sh = addT (rise t (at' : Rat)).1 who len sh := by unfold Y.comeT; rfl
  have r := rise_z h (by omega) ha
  rw [e, rise_no (t := addT (rise t (at' : Rat)).1 who len sh) (by exact r.no)]
  rfl
theorem mark_00 {L : Int} : (rise ⟨0, 0, 0, [], []⟩ (L : Rat)).1.he = 0 := by
  unfold rise
  show (rk (L : Rat) (0 + 1) (⟨0, 0, 0, [], []⟩, [])).1.he = 0
  by_cases h : (0 : Rat) < (L : Rat)
  · rw [rk_step (by exact h)]
    show (goT _ _).he = 0
    unfold goT
    rw [if_pos (by unfold hds; rfl)]
  · rw [rk_stop (by exact h)]
theorem q_den2 (q : Rat) : q * ((q.den : Int) : Rat) = (q.num : Rat) := by
  have h := Rat.num_divInt_den q
  rw [Rat.divInt_eq_div] at h
  have b0 : ((q.den : Int) : Rat) ≠ 0 := by exact_mod_cast (r_den0 q)
  have e := Rat.div_mul_cancel (a := (q.num : Rat)) b0
  rw [h] at e
  exact e
theorem more_ok {b e : Rat} {len sh : Int} (h : e = b + Rat.divInt len sh) (hs : sh ≠ 0) : (e.num * b.den - b.num * e.den) * sh = len * b.den * e.den := by
  have hq : (sh : Rat) ≠ 0 := by exact_mod_cast hs
  have e1 := Rat.div_mul_cancel (a := (len : Rat)) hq
  have d1 := q_den2 b
  have d2 := q_den2 e
  rw [Rat.divInt_eq_div] at h
  have : (((e.num * b.den - b.num * e.den) * sh : Int) : Rat) = ((len * b.den * e.den : Int) : Rat) := by
    simp only [Rat.intCast_mul, Rat.intCast_sub]
    rw [← d1, ← d2]
    have h2 : e * (sh : Rat) = b * (sh : Rat) + (len : Rat) := by rw [h, Rat.add_mul, e1]
    grind
  exact_mod_cast this
theorem tz0 : TdZ 0 0 ⟨0, 0, 0, [], []⟩ := ⟨⟨1, by decide, bt_one 0, On.int 0, On.int 0, fun e he => absurd he List.not_mem_nil, fun e he => absurd he List.not_mem_nil, fun e he => absurd he List.not_mem_nil⟩, ⟨Rat.le_refl, rle (a := 0) (by unfold bigX; decide)⟩, ⟨Rat.le_refl, rle (a := 0) (by decide)⟩, fun e he => absurd he List.not_mem_nil, fun e he => absurd he List.not_mem_nil, Nat.le_refl _, Nat.le_refl _⟩
abbrev TwA (K : PySem.W.Frag) (p : Rat × Rat) : As := Tp K [Fq K p.1, Fq K p.2]
theorem kd_tw : Kd K (TwA K) (fun p => .tuple [.tuple [.int p.1.num, .int p.1.den], .tuple [.int p.2.num, .int p.2.den]]) 2 := ⟨fun s => isd_tup ⟨kd_fq.is _, kd_fq.is _, trivial⟩, fun s => ⟨rfl, Nat.le_of_eq rfl⟩, fun x y => by
    obtain ⟨a, q⟩ := x
    obtain ⟨a', r⟩ := y
    have e1 := kd_fq (K := K) |>.eq a a'
    have e2 := kd_fq (K := K) |>.eq q r
    simp only [PyData.eqv, PyData.eqvAll, Bool.and_true, Prod.mk.injEq] at e1 e2 ⊢
    rw [Bool.and_eq_true, e1, e2]⟩
end

section
variable {K : PySem.W.Frag}
/-- a stretch whose list of parts is still owned -/
abbrev SrR (K : PySem.W.Frag) (e : Addr × Str3) : As := Tp K [Fq K e.2.1, Fq K e.2.2.1, Rf e.1]
abbrev prO (K : PySem.W.Frag) (e : Addr × Str3) : Addr × OA := (e.1, oL (e.2.2.2.map (PrA K)))
theorem prm_app {α : Type} {a b q : α} {l : List α} : (a :: b :: q :: l).Perm (q :: a :: (l ++ [b])) :=
  (List.Perm.cons a (List.Perm.swap q b l)).trans ((List.Perm.swap q a (b :: l)).trans (List.Perm.cons q (List.Perm.cons a (List.perm_append_singleton b l).symm)))
theorem mid_at {α : Type} {a q : α} {l r : List α} : (a :: (l ++ q :: r))[l.length + 1]? = some q := by
  rw [List.getElem?_cons_succ, List.getElem?_append_right (Nat.le_refl _), Nat.sub_self]; rfl
theorem mid_set {α : Type} {a q q' : α} {l r : List α} : (a :: (l ++ q :: r)).set (l.length + 1) q' = a :: (l ++ q' :: r) := by
  rw [List.set_cons_succ, List.set_append_right _ _ (Nat.le_refl _), Nat.sub_self]; rfl
theorem len_snd {es : List (Addr × Str3)} {l : List Str3} (h : es.map Prod.snd = l) : es.length = l.length := by rw [← h, List.length_map]
end

abbrev Tg := Rat × Rat × Int
def tri (e : Fe) : Tg := (e.1, e.2.1, e.2.2.1)
def ovl (a b x y : Rat) : Rat := if (if x < a then a else x) < (if b < y then b else y) then (if b < y then b else y) - (if x < a then a else x) else 0
def WW (l : List Tg) (a b : Rat) : Rat := (l.map fun e => (e.2.2 : Rat) * ovl a b e.1 e.2.1).sum
def alv (h : Rat) (e : Tg) : Bool := decide (h < e.2.1)
section
variable {a b c x y : Rat} {l : List Tg}
theorem ovl_add (h : a ≤ b) (h2 : b ≤ c) : ovl a c x y = ovl a b x y + ovl b c x y := by
  unfold ovl
  grind
theorem ovl_lo (h : y ≤ a) : ovl a b x y = 0 := by
  unfold ovl
  grind
theorem ovl_hi (h : b ≤ x) : ovl a b x y = 0 := by
  unfold ovl
  grind
theorem ovl_in (h : x ≤ a) (h2 : b ≤ y) (h3 : a ≤ b) : ovl a b x y = b - a := by
  unfold ovl
  grind
theorem ovl_nn : 0 ≤ ovl a b x y := by
  unfold ovl
  grind
theorem WW_nil : WW [] a b = 0 := by unfold WW; simp
theorem WW_cons {e : Tg} : WW (e :: l) a b = (e.2.2 : Rat) * ovl a b e.1 e.2.1 + WW l a b := by unfold WW; rw [List.map_cons, List.sum_cons]
theorem WW_app {l2 : List Tg} : WW (l ++ l2) a b = WW l a b + WW l2 a b := by unfold WW; rw [List.map_append, List.sum_append]
theorem WW_add (h : a ≤ b) (h2 : b ≤ c) : ∀ l : List Tg, WW l a c = WW l a b + WW l b c
  | [] => by rw [WW_nil, WW_nil, WW_nil]; grind
  | e :: l => by rw [WW_cons, WW_cons, WW_cons, WW_add h h2 l, ovl_add h h2]; grind
theorem WW_zero (h : ∀ e ∈ l, e.2.1 ≤ a) : WW l a b = 0 := by
  induction l with
  | nil => exact WW_nil
  | cons e l ih => rw [WW_cons, ih fun x hx => h x (List.mem_cons_of_mem _ hx), ovl_lo (h e List.mem_cons_self)]; grind
theorem WW_alive : ∀ l : List Tg, WW l a b = WW (l.filter (alv a)) a b
  | [] => rfl
  | e :: l => by
    rw [WW_cons, WW_alive l, List.filter_cons]
    by_cases h : a < e.2.1
    · rw [if_pos (show alv a e = true from decide_eq_true h), WW_cons]
    · rw [if_neg (show ¬ alv a e = true from fun z => h (of_decide_eq_true z)), ovl_lo (by grind)]; grind
theorem WW_same {l2 : List Tg} (h : l.filter (alv a) = l2.filter (alv a)) : WW l a b = WW l2 a b := by rw [WW_alive l, WW_alive l2, h]
theorem WW_nn (h : ∀ e ∈ l, 0 ≤ e.2.2) : 0 ≤ WW l a b := by
  induction l with
  | nil => rw [WW_nil]; exact Rat.le_refl
  | cons e l ih =>
    rw [WW_cons]
    have h1 := ih fun x hx => h x (List.mem_cons_of_mem _ hx)
    have h2 : (0 : Rat) ≤ (e.2.2 : Rat) := rle (a := 0) (h e List.mem_cons_self)
    have := Rat.mul_nonneg h2 (ovl_nn (a := a) (b := b) (x := e.1) (y := e.2.1))
    grind
theorem WW_heads {fl : List Fe} {h d : Rat} {h' : Rat} (h1 : ∀ e ∈ fl, isHd h e = true → ovl h h' e.1 e.2.1 = d) (h2 : ∀ e ∈ fl, ¬ isHd h e = true → ovl h h' e.1 e.2.1 = 0) : WW (fl.map tri) h h' = (whS (fl.filter (isHd h)) : Rat) * d := by
  induction fl with
  | nil => rw [List.map_nil, WW_nil]; unfold whS; simp
  | cons e fl ih =>
    have ih := ih (fun x hx => h1 x (List.mem_cons_of_mem _ hx)) fun x hx => h2 x (List.mem_cons_of_mem _ hx)
    rw [List.map_cons, WW_cons, ih, List.filter_cons]
    by_cases hb : isHd h e = true
    · rw [if_pos hb]
      have e0 := h1 e List.mem_cons_self hb
      have ew : whS (e :: fl.filter (isHd h)) = e.2.2.1 + whS (fl.filter (isHd h)) := by unfold whS; rw [List.map_cons, List.sum_cons]
      rw [ew, Rat.intCast_add]
      show (e.2.2.1 : Rat) * ovl h h' e.1 e.2.1 + _ = _
      rw [e0]; grind
    · rw [if_neg hb]
      have e0 := h2 e List.mem_cons_self hb
      show (e.2.2.1 : Rat) * ovl h h' e.1 e.2.1 + _ = _
      rw [e0]; grind
end
/-- what a tide is, against all tags told so far -/
structure Tr (tg : List Tg) (t : Td) : Prop where
  se : tg.filter (alv t.he) = (t.fl.map tri).filter (alv t.he)
  ch : ∀ e ∈ t.fl, t.he < e.1 → ∃ e' ∈ t.fl, e'.2.1 = e.1
  po : ∀ e ∈ t.fl, e.1 < e.2.1
  sh : ∀ e ∈ t.fl, 1 ≤ e.2.2.1
  la : (∃ e ∈ t.fl, t.he < e.2.1) ∨ (tg = [] ∧ t.he = 0) ∨ ∃ e ∈ tg, e.2.1 = t.he
  en : ∀ p ∈ t.en, p.2 ≤ t.he ∨ ∃ e ∈ t.fl, e.2.1 = p.2
  h0 : 0 ≤ t.he
section
variable {tg : List Tg} {t : Td}
theorem hd_pos (hs : ∀ e ∈ t.fl, 1 ≤ e.2.2.1) (hn : hds t ≠ []) : 0 < whS (hds t) ∧ t.he < nearH (hds t) ∧ (∃ e ∈ hds t, nearH (hds t) = e.2.1) ∧ ∀ e ∈ hds t, nearH (hds t) ≤ e.2.1 := by
  obtain ⟨⟨e, he, ee⟩, h2⟩ := nearH_mem hn
  have key : ∀ {l : List Fe}, (∀ e ∈ l, 1 ≤ e.2.2.1) → (l.length : Int) ≤ whS l := fun {l} => by
    induction l with
    | nil => intro _; unfold whS; simp
    | cons x l ih =>
      intro h
      have h1 := ih fun y hy => h y (List.mem_cons_of_mem _ hy)
      have h2 := h x List.mem_cons_self
      unfold whS at h1 ⊢
      rw [List.map_cons, List.sum_cons, List.length_cons]
      push_cast
      omega
  have hl := key (l := hds t) fun x hx => hs x (mem_hds.mp hx).1
  have hl0 : 0 < (hds t).length := List.length_pos_iff.mpr hn
  exact ⟨by omega, by rw [ee]; exact (mem_hds.mp he).2.2, ⟨e, he, ee⟩, h2⟩
/-- what waits begins no sooner than the next end -/
theorem Tr.wait (h : Tr tg t) : ∀ (n : Nat) (e : Fe), e ∈ t.fl → t.he < e.1 → t.fl.countP (fun x => decide (x.1 < e.1)) ≤ n → ∃ x ∈ hds t, x.2.1 ≤ e.1
  | n, e, he, hlt, hc => by
    obtain ⟨x, hx, ex⟩ := h.ch e he hlt
    have hp := h.po x hx
    by_cases hw : t.he < x.1
    · have hcl : t.fl.countP (fun z => decide (z.1 < x.1)) < t.fl.countP (fun z => decide (z.1 < e.1)) := cntP_lt (fun z hz hq => by
        simp only [decide_eq_true_eq] at hq ⊢
        grind) ⟨x, hx, by simp only [decide_eq_false_iff_not]; exact Rat.lt_irrefl, by simp only [decide_eq_true_eq]; grind⟩
      cases n with
      | zero => omega
      | succ n =>
        obtain ⟨y, hy, hy2⟩ := Tr.wait h n x hx hw (by omega)
        exact ⟨y, hy, by grind⟩
    · exact ⟨x, mem_hds.mpr ⟨hx, hw, by grind⟩, by grind⟩
theorem Tr.near (h : Tr tg t) {e : Fe} (he : e ∈ t.fl) (hlt : t.he < e.1) : hds t ≠ [] ∧ nearH (hds t) ≤ e.1 := by
  obtain ⟨x, hx, hx2⟩ := h.wait _ e he hlt (Nat.le_refl _)
  have hn : hds t ≠ [] := fun z => by rw [z] at hx; exact absurd hx List.not_mem_nil
  exact ⟨hn, Rat.le_trans ((hd_pos h.sh hn).2.2.2 x hx) hx2⟩
theorem Tr.dead (h : Tr tg t) (hn : hds t = []) : ∀ e ∈ t.fl, ¬ t.he < e.2.1 := fun e he z => by
  by_cases hw : t.he < e.1
  · exact (h.near he hw).1 hn
  · have : e ∈ hds t := mem_hds.mpr ⟨he, hw, z⟩
    rw [hn] at this; exact absurd this List.not_mem_nil
theorem Tr.alive_iff (h : Tr tg t) : (∃ e ∈ tg, t.he < e.2.1) ↔ ∃ e ∈ t.fl, t.he < e.2.1 := by
  constructor
  · rintro ⟨e, he, hl⟩
    have : e ∈ tg.filter (alv t.he) := List.mem_filter.mpr ⟨he, decide_eq_true hl⟩
    rw [h.se] at this
    obtain ⟨x, hx, ex⟩ := List.mem_map.mp (List.mem_filter.mp this).1
    exact ⟨x, hx, by rw [← ex] at hl; exact hl⟩
  · rintro ⟨e, he, hl⟩
    have : tri e ∈ (t.fl.map tri).filter (alv t.he) := List.mem_filter.mpr ⟨List.mem_map.mpr ⟨e, he, rfl⟩, decide_eq_true hl⟩
    rw [← h.se] at this
    exact ⟨tri e, (List.mem_filter.mp this).1, hl⟩
theorem goT_cases {L : Rat} : (hds t = [] ∧ goT t (some L) = { t with mo := L }) ∨ (hds t ≠ [] ∧ L < reach t ∧ goT t (some L) = { t with he := t.he + (L - t.mo) / (whS (hds t) : Rat), mo := L }) ∨ (hds t ≠ [] ∧ ¬ L < reach t ∧ goT t (some L) = { t with he := nearH (hds t), mo := reach t }) := by
  by_cases hn : hds t = []
  · exact .inl ⟨hn, by unfold goT; rw [if_pos hn]; rfl⟩
  · by_cases hc : L < reach t
    · exact .inr (.inl ⟨hn, hc, by unfold goT; rw [if_neg hn, if_pos (show cutB t (some L) = true from decide_eq_true hc)]; rfl⟩)
    · exact .inr (.inr ⟨hn, hc, by unfold goT; rw [if_neg hn, if_neg (show ¬ cutB t (some L) = true from fun z => hc (of_decide_eq_true z))]⟩)
theorem cut_bd {L : Rat} (hs : ∀ e ∈ t.fl, 1 ≤ e.2.2.1) (hn : hds t ≠ []) (hL : t.mo < L) (hc : L < reach t) : (L - t.mo) / (whS (hds t) : Rat) * (whS (hds t) : Rat) = L - t.mo ∧ 0 < (L - t.mo) / (whS (hds t) : Rat) ∧ (L - t.mo) / (whS (hds t) : Rat) < nearH (hds t) - t.he := by
  obtain ⟨w0, lt, _, _⟩ := hd_pos hs hn
  have wq : (0 : Rat) < (whS (hds t) : Rat) := by exact_mod_cast w0
  have e1 : (L - t.mo) / (whS (hds t) : Rat) * (whS (hds t) : Rat) = L - t.mo := Rat.div_mul_cancel (by grind)
  refine ⟨e1, ?_, ?_⟩
  · refine (Rat.mul_lt_mul_right wq).mp ?_
    rw [e1]; grind
  · refine (Rat.mul_lt_mul_right wq).mp ?_
    rw [e1]
    unfold reach at hc
    grind
/-- going up to h' -/
theorem Tr.rise1 (h : Tr tg t) {h' m' : Rat} (hn : hds t ≠ []) (hlt : t.he < h') (hle : h' ≤ nearH (hds t)) (hd : h' < nearH (hds t) ∨ h' = nearH (hds t)) : WW tg t.he h' = (whS (hds t) : Rat) * (h' - t.he) ∧ Tr tg { t with he := h', mo := m' } := by
  obtain ⟨w0, lt, ⟨n1, hn1, en1⟩, nle⟩ := hd_pos h.sh hn
  constructor
  · rw [WW_same h.se]
    have e : hds t = t.fl.filter (isHd t.he) := by unfold hds; rfl
    rw [e]
    refine WW_heads (fun e he hb => ?_) (fun e he hb => ?_)
    · have hm : e ∈ hds t := by unfold hds; exact List.mem_filter.mpr ⟨he, hb⟩
      have h2 := mem_hds.mp hm
      have h3 := nle e hm
      exact ovl_in (by grind) (by grind) (by grind)
    · by_cases hw : t.he < e.1
      · exact ovl_hi (Rat.le_trans hle (h.near he hw).2)
      · refine ovl_lo (Rat.not_lt.mp fun z => hb ?_)
        have := mem_hds.mpr ⟨he, hw, z⟩
        unfold hds at this
        exact (List.mem_filter.mp this).2
  · have ff : ∀ l : List Tg, l.filter (alv h') = (l.filter (alv t.he)).filter (alv h') := fun l => by
      rw [List.filter_filter]
      refine List.filter_congr fun e _ => ?_
      unfold alv
      by_cases z : h' < e.2.1
      · rw [decide_eq_true z, decide_eq_true (show t.he < e.2.1 by grind)]; rfl
      · rw [decide_eq_false z]; rfl
    refine ⟨?_, fun e he z => h.ch e he (by dsimp only at z; grind), h.po, h.sh, ?_, fun p hp => ?_, by have := h.h0; dsimp only; grind⟩
    · dsimp only
      rw [ff tg, ff (t.fl.map tri), h.se]
    · dsimp only
      rcases hd with z | z
      · exact .inl ⟨n1, (mem_hds.mp hn1).1, by grind⟩
      · by_cases za : ∃ e ∈ t.fl, h' < e.2.1
        · exact .inl za
        · have : tri n1 ∈ (t.fl.map tri).filter (alv t.he) := List.mem_filter.mpr ⟨List.mem_map.mpr ⟨n1, (mem_hds.mp hn1).1, rfl⟩, decide_eq_true (mem_hds.mp hn1).2.2⟩
          rw [← h.se] at this
          exact .inr (.inr ⟨tri n1, (List.mem_filter.mp this).1, by rw [z, en1]; rfl⟩)
    · rcases h.en p hp with z | z
      · exact .inl (by dsimp only; grind)
      · exact .inr z
structure Go (tg : List Tg) (t t' : Td) (L : Rat) : Prop where
  tr : Tr tg t'
  he : t.he ≤ t'.he
  mo : t'.mo ≤ L ∧ t.mo < t'.mo
  w : (∃ e ∈ t'.fl, t'.he < e.2.1) → WW tg t.he t'.he = t'.mo - t.mo
  wl : WW tg t.he t'.he ≤ t'.mo - t.mo
  ex : t'.mo = L ∨ WW tg t.he t'.he = t'.mo - t.mo
theorem Tr.go (h : Tr tg t) {L : Rat} (hL : t.mo < L) : Go tg t (goT t (some L)) L := by
  rcases goT_cases (t := t) (L := L) with ⟨hn, e⟩ | ⟨hn, hc, e⟩ | ⟨hn, hc, e⟩
  · rw [e]
    have hz : WW tg t.he t.he ≤ L - t.mo := by
      rw [WW_same h.se, WW_zero]
      · grind
      · intro x hx
        obtain ⟨y, hy, ey⟩ := List.mem_map.mp hx
        have := h.dead hn y hy
        rw [← ey]
        exact Rat.not_lt.mp this
    exact ⟨⟨h.se, h.ch, h.po, h.sh, h.la, h.en, h.h0⟩, Rat.le_refl, ⟨Rat.le_refl, hL⟩, fun ⟨x, hx, hx2⟩ => absurd hx2 (h.dead hn x hx), hz, .inl rfl⟩
  · obtain ⟨e1, e2, e3⟩ := cut_bd h.sh hn hL hc
    rw [e]
    obtain ⟨r1, r2⟩ := h.rise1 (m' := L) (h' := t.he + (L - t.mo) / (whS (hds t) : Rat)) hn (by grind) (by grind) (.inl (by grind))
    have r3 : WW tg t.he (t.he + (L - t.mo) / (whS (hds t) : Rat)) = L - t.mo := by rw [r1]; grind
    exact ⟨r2, by dsimp only; grind, ⟨Rat.le_refl, hL⟩, fun _ => r3, by dsimp only; rw [r3]; exact Rat.le_refl, .inl rfl⟩
  · obtain ⟨w0, lt, _, _⟩ := hd_pos h.sh hn
    rw [e]
    obtain ⟨r1, r2⟩ := h.rise1 (m' := reach t) (h' := nearH (hds t)) hn lt Rat.le_refl (.inr rfl)
    have wq : (0 : Rat) < (whS (hds t) : Rat) := by exact_mod_cast w0
    have er : reach t - t.mo = (nearH (hds t) - t.he) * (whS (hds t) : Rat) := by unfold reach; grind
    have ep := Rat.mul_pos (a := nearH (hds t) - t.he) (b := (whS (hds t) : Rat)) (by grind) wq
    have r3 : WW tg t.he (nearH (hds t)) = reach t - t.mo := by rw [r1, er]; grind
    exact ⟨r2, by dsimp only; grind, ⟨by dsimp only; grind, by dsimp only; grind⟩, fun _ => r3, by dsimp only; rw [r3]; exact Rat.le_refl, .inr r3⟩
/-- the flow's law, from a state to where it is at L -/
structure Fw (tg : List Tg) (t t' : Td) : Prop where
  tr : Tr tg t'
  he : t.he ≤ t'.he
  mo : t.mo ≤ t'.mo
  w : (∃ e ∈ t'.fl, t'.he < e.2.1) → WW tg t.he t'.he = t'.mo - t.mo
  wl : WW tg t.he t'.he ≤ t'.mo - t.mo
theorem Tr.same (h : Tr tg t) : Fw tg t t := by
  have z : WW tg t.he t.he = 0 := by
    have := WW_add (a := t.he) (b := t.he) (c := t.he) Rat.le_refl Rat.le_refl tg
    grind
  exact ⟨h, Rat.le_refl, Rat.le_refl, fun _ => by rw [z]; grind, by rw [z]; grind⟩
theorem trk {L : Rat} : ∀ (k : Nat) (s : Td × List Str3), Tr tg s.1 → Fw tg s.1 (rk L k s).1
  | 0, s, h => h.same
  | k + 1, s, h => by
    by_cases hlt : s.1.mo < L
    · rw [rk_step hlt]
      have g := h.go hlt
      obtain ⟨s1, es1⟩ : ∃ s1, goT s.1 (some L) = s1 := ⟨_, rfl⟩
      rw [es1] at g ⊢
      have f := trk (L := L) k (s1, s.2 ++ (goR s.1 (some L)).toList) g.tr
      dsimp only at f
      have ad := WW_add g.he f.he tg
      rcases g.ex with hm | hw
      · have hst : (rk L k (s1, s.2 ++ (goR s.1 (some L)).toList)).1 = s1 := by rw [rk_stop (by show ¬ s1.mo < L; rw [hm]; exact Rat.lt_irrefl)]
        rw [hst]
        exact ⟨g.tr, g.he, by have := g.mo.2; grind, g.w, g.wl⟩
      · exact ⟨f.tr, Rat.le_trans g.he f.he, by have := g.mo.2; have := f.mo; grind, fun ha => by rw [ad, hw, f.w ha]; grind, by have := f.wl; rw [ad, hw]; grind⟩
    · rw [rk_stop hlt]
      exact h.same
theorem Tr.rise (h : Tr tg t) (L : Rat) : Fw tg t (rise t L).1 := by
  unfold Y.rise
  exact trk (L := L) (t.fl.length + 1) (t, []) h
theorem rk_mono {L1 L2 : Rat} (hL : L1 ≤ L2) : ∀ (k : Nat) (s : Td × List Str3) (acc : List Str3), Tr tg s.1 → (rk L1 k s).1.he ≤ (rk L2 k (s.1, acc)).1.he
  | 0, s, acc, h => Rat.le_refl
  | k + 1, s, acc, h => by
    by_cases hlt : s.1.mo < L1
    · have hlt2 : s.1.mo < L2 := by grind
      rw [rk_step hlt, rk_step (s := (s.1, acc)) hlt2]
      dsimp only
      have g1 := h.go hlt
      have g2 := h.go hlt2
      have f2 := trk (L := L2) k (goT s.1 (some L2), acc ++ (goR s.1 (some L2)).toList) g2.tr
      dsimp only at f2
      rcases goT_cases (t := s.1) (L := L1) with ⟨hn, e⟩ | ⟨hn, hc, e⟩ | ⟨hn, hc, e⟩
      · have hst : (rk L1 k (goT s.1 (some L1), s.2 ++ (goR s.1 (some L1)).toList)).1 = goT s.1 (some L1) := by rw [rk_stop (by rw [e]; exact Rat.lt_irrefl)]
        rw [hst, e]
        exact Rat.le_trans g2.he f2.he
      · have hst : (rk L1 k (goT s.1 (some L1), s.2 ++ (goR s.1 (some L1)).toList)).1 = goT s.1 (some L1) := by rw [rk_stop (by rw [e]; exact Rat.lt_irrefl)]
        rw [hst]
        refine Rat.le_trans ?_ f2.he
        obtain ⟨e1, e2, e3⟩ := cut_bd h.sh hn hlt hc
        rw [e]
        dsimp only
        rcases goT_cases (t := s.1) (L := L2) with ⟨hn2, e'⟩ | ⟨hn2, hc2, e'⟩ | ⟨hn2, hc2, e'⟩
        · exact absurd hn2 hn
        · obtain ⟨e1', e2', e3'⟩ := cut_bd h.sh hn hlt2 hc2
          rw [e']
          dsimp only
          obtain ⟨w0, _⟩ := hd_pos h.sh hn
          have wq : (0 : Rat) < (whS (hds s.1) : Rat) := by exact_mod_cast w0
          have : (L1 - s.1.mo) / (whS (hds s.1) : Rat) ≤ (L2 - s.1.mo) / (whS (hds s.1) : Rat) := by
            refine Rat.not_lt.mp fun z => ?_
            have := (Rat.mul_lt_mul_right wq).mpr z
            rw [e1, e1'] at this
            grind
          grind
        · rw [e']
          dsimp only
          grind
      · have hc2 : ¬ L2 < reach s.1 := fun z => hc (by grind)
        have es : goT s.1 (some L1) = goT s.1 (some L2) := by
          rw [e]
          rcases goT_cases (t := s.1) (L := L2) with ⟨hn2, e'⟩ | ⟨hn2, hc3, e'⟩ | ⟨hn2, hc3, e'⟩
          · exact absurd hn2 hn
          · exact absurd hc3 hc2
          · rw [e']
        rw [← es]
        exact rk_mono hL k (goT s.1 (some L1), s.2 ++ (goR s.1 (some L1)).toList) _ g1.tr
    · rw [rk_stop hlt]
      exact (trk (L := L2) (k + 1) (s.1, acc) h).he
theorem Tr.mono (h : Tr tg t) {L1 L2 : Rat} (hL : L1 ≤ L2) : (Y.rise t L1).1.he ≤ (Y.rise t L2).1.he := by
  unfold Y.rise
  exact rk_mono hL _ (t, []) [] h
theorem Tr.add (h : Tr tg t) {who len sh : Int} (hl : 1 ≤ len) (hs : 1 ≤ sh) : Tr (tg ++ [(begT t who, begT t who + Rat.divInt len sh, sh)]) (addT t who len sh) := by
  have hb : t.he ≤ begT t who := by unfold begT gtr2; split <;> grind
  have hd : 0 < Rat.divInt len sh := by
    rw [Rat.divInt_eq_div]
    have h1 : (0 : Rat) < (len : Rat) := by
      have : 0 < len := by omega
      exact_mod_cast this
    have h2 : (0 : Rat) < (sh : Rat) := by
      have : 0 < sh := by omega
      exact_mod_cast this
    rw [Rat.div_def]
    exact Rat.mul_pos h1 (Rat.inv_pos.mpr h2)
  have hbc : t.he < begT t who → ∃ p ∈ t.en, p.2 = begT t who := fun z => by
    have h0 := h.h0
    unfold begT gtr2 at z ⊢
    split at z
    · rename_i hlt
      rw [if_pos hlt]
      cases e : getD who t.en with
      | none => rw [e] at hlt; exact absurd hlt (by show ¬ t.he < 0; grind)
      | some y =>
        obtain ⟨p, hp, ep⟩ := getD_mem e
        exact ⟨p, hp, ep⟩
    · exact absurd z Rat.lt_irrefl
  obtain ⟨b, eb⟩ : ∃ b, begT t who = b := ⟨_, rfl⟩
  obtain ⟨d, ed⟩ : ∃ d, Rat.divInt len sh = d := ⟨_, rfl⟩
  unfold addT
  rw [eb] at hb hbc ⊢
  rw [ed] at hd ⊢
  have keep : ∀ e ∈ t.fl, t.he < e.2.1 → e ∈ t.fl.filter (fun e => decide (t.he < e.2.1)) ++ [(b, b + d, sh, t.mn)] := fun e he z => List.mem_append_left _ (List.mem_filter.mpr ⟨he, decide_eq_true z⟩)
  refine ⟨?_, fun e he z => ?_, fun e he => ?_, fun e he => ?_, .inl ⟨(b, b + d, sh, t.mn), List.mem_append_right _ (List.mem_singleton.mpr rfl), by dsimp only; grind⟩, fun p hp => ?_, h.h0⟩
  · dsimp only
    rw [List.map_append, List.filter_append, List.filter_append, h.se]
    congr 1
    rw [List.filter_map, List.filter_map, List.filter_filter]
    congr 1
    refine List.filter_congr fun e _ => ?_
    show decide (t.he < e.2.1) = (decide (t.he < e.2.1) && decide (t.he < e.2.1))
    exact (Bool.and_self _).symm
  · dsimp only at he z ⊢
    rcases List.mem_append.mp he with q | q
    · obtain ⟨x, hx, ex⟩ := h.ch e (List.mem_filter.mp q).1 z
      exact ⟨x, keep x hx (by rw [ex]; exact z), ex⟩
    · rw [List.mem_singleton.mp q] at z ⊢
      dsimp only at z ⊢
      obtain ⟨p, hp, ep⟩ := hbc z
      rcases h.en p hp with w | ⟨x, hx, ex⟩
      · rw [ep] at w; grind
      · exact ⟨x, keep x hx (by rw [ex, ep]; exact z), ex.trans ep⟩
  · rcases List.mem_append.mp he with q | q
    · exact h.po e (List.mem_filter.mp q).1
    · rw [List.mem_singleton.mp q]; dsimp only; grind
  · rcases List.mem_append.mp he with q | q
    · exact h.sh e (List.mem_filter.mp q).1
    · rw [List.mem_singleton.mp q]; exact hs
  · dsimp only at hp ⊢
    rcases mem_putD hp with w | w
    · exact .inr ⟨(b, b + d, sh, t.mn), List.mem_append_right _ (List.mem_singleton.mpr rfl), w.symm⟩
    · rcases h.en p w with w | ⟨x, hx, ex⟩
      · exact .inl w
      · by_cases z : t.he < x.2.1
        · exact .inr ⟨x, keep x hx z, ex⟩
        · exact .inl (by rw [← ex]; exact Rat.not_lt.mp z)
theorem Tr.come (h : Tr tg t) {at' who len sh : Int} (hl : 1 ≤ len) (hs : 1 ≤ sh) : Tr (tg ++ [(tag1 t at' who, tag2 t at' who len sh, sh)]) (comeT t at' who len sh) := by
  have e : comeT t at' who len sh = addT (Y.rise t (at' : Rat)).1 who len sh := by unfold Y.comeT; rfl
  have et1 : tag1 t at' who = begT (Y.rise t (at' : Rat)).1 who := by unfold tag1; rfl
  have et2 : tag2 t at' who len sh = begT (Y.rise t (at' : Rat)).1 who + Rat.divInt len sh := by unfold tag2; rw [et1]
  rw [e, et1, et2]
  exact (h.rise (at' : Rat)).tr.add hl hs
theorem tr0 : Tr [] ⟨0, 0, 0, [], []⟩ := ⟨rfl, fun e he => absurd he List.not_mem_nil, fun e he => absurd he List.not_mem_nil, fun e he => absurd he List.not_mem_nil, .inr (.inl ⟨rfl, rfl⟩), fun e he => absurd he List.not_mem_nil, Rat.le_refl⟩
/-- more over the same bottom -/
theorem TdG.vals {xs : List Rat} {n m : Nat} (h : TdG xs n m t) : TdG (xs ++ (t.mo :: t.he :: (t.fl.map (·.1) ++ t.fl.map (·.2.1) ++ t.en.map (·.2)))) n m t := by
  obtain ⟨D, d0, d1, o1, o2, o3, o4, o5⟩ := h.ex
  refine ⟨⟨D, d0, d1, o1, o2, o3, o4, fun x hx => ?_⟩, h.mo, h.he, h.fl, h.en, h.ln, h.el⟩
  rcases List.mem_append.mp hx with z | z
  · exact o5 x z
  rcases List.mem_cons.mp z with z | z
  · rw [z]; exact o1
  rcases List.mem_cons.mp z with z | z
  · rw [z]; exact o2
  rcases List.mem_append.mp z with z | z
  · rcases List.mem_append.mp z with z | z
    · obtain ⟨e, he, ee⟩ := List.mem_map.mp z
      rw [← ee]; exact (o3 e he).1
    · obtain ⟨e, he, ee⟩ := List.mem_map.mp z
      rw [← ee]; exact (o3 e he).2
  · obtain ⟨p, hp, ep⟩ := List.mem_map.mp z
    rw [← ep]; exact o4 p hp
theorem rise_x {xs : List Rat} {n m : Nat} (h : TdG xs n m t) (hm : m ≤ 63) {L : Int} (hX : L ≤ bigX) : TdG (xs ++ [(Y.rise t (L : Rat)).1.he]) (n + 26) m t := by
  have r := (rise_z h.vals hm hX).z
  obtain ⟨D, d0, d1, o1, o2, o3, o4, o5⟩ := r.ex
  have o6 : ∀ x, x ∈ (t.mo :: t.he :: (t.fl.map (·.1) ++ t.fl.map (·.2.1) ++ t.en.map (·.2))) → On D x := fun x hx => o5 x (List.mem_append_right _ hx)
  refine ⟨⟨D, d0, d1, o6 _ List.mem_cons_self, o6 _ (List.mem_cons_of_mem _ List.mem_cons_self), fun e he => ⟨o6 _ (List.mem_cons_of_mem _ (List.mem_cons_of_mem _ (List.mem_append_left _ (List.mem_append_left _ (List.mem_map.mpr ⟨e, he, rfl⟩))))), o6 _ (List.mem_cons_of_mem _ (List.mem_cons_of_mem _ (List.mem_append_left _ (List.mem_append_right _ (List.mem_map.mpr ⟨e, he, rfl⟩)))))⟩, fun p hp => o6 _ (List.mem_cons_of_mem _ (List.mem_cons_of_mem _ (List.mem_append_right _ (List.mem_map.mpr ⟨p, hp, rfl⟩)))), fun x hx => ?_⟩, h.mo, h.he, h.fl, h.en, h.ln, h.el⟩
  rcases List.mem_append.mp hx with z | z
  · exact o5 x (List.mem_append_left _ z)
  · rw [List.mem_singleton.mp z]; exact o2
end

section
variable {n m : Nat} {t : Td} {xs : List Rat}
def potD (m : Nat) (t : Td) : Rat := t.mo + (((m * 1000000 : Int) : Rat) - t.he) * ((63000000 : Int) : Rat)
theorem goT_none (hn : hds t ≠ []) : goT t none = { t with he := nearH (hds t), mo := reach t } ∧ goR t none = some (t.mo, reach t, (hds t).map fun e => (e.2.2.2, Rat.divInt e.2.2.1 (whS (hds t)))) := by
  have e1 : goT t none = { t with he := nearH (hds t), mo := reach t } := by unfold goT; rw [if_neg hn, if_neg (by intro z; cases z)]
  refine ⟨e1, ?_⟩
  unfold goR
  rw [if_neg hn, e1]
theorem drain_step (h : TdG xs n m t) (hm : m ≤ 63) (hn : hds t ≠ []) (hB : potD m t ≤ (bigX : Rat)) : TdG xs n m (goT t none) ∧ potD m (goT t none) ≤ (bigX : Rat) ∧ alive (goT t none) < alive t := by
  obtain ⟨D, d0, d1, o1, o2, o3, o4, o5⟩ := h.ex
  have f := h.flw hm hn
  obtain ⟨x, hx, ex⟩ := f.nr
  have mx := (mem_hds.mp hx).1
  have on : On D (nearH (hds t)) := by rw [ex]; exact (o3 x mx).2
  have w1 := f.w1
  have w2 := f.w2
  have wq : (0 : Rat) < (whS (hds t) : Rat) := by
    have : 0 < whS (hds t) := by omega
    exact_mod_cast this
  have wq2 : (whS (hds t) : Rat) ≤ ((63000000 : Int) : Rat) := rle w2
  have lt := f.lt
  have hh := h.he
  have le := f.le
  have up := f.up
  have mo := h.mo
  have e := (goT_none hn).1
  have a1 := Rat.mul_le_mul_of_nonneg_left wq2 (show 0 ≤ nearH (hds t) - t.he by grind)
  have er : reach t = t.mo + (nearH (hds t) - t.he) * (whS (hds t) : Rat) := by unfold reach; rfl
  have hp : potD m (goT t none) ≤ potD m t := by
    rw [e]
    unfold potD
    dsimp only
    rw [er]
    grind
  have orr : On D (reach t) := by unfold reach; exact o1.add ((on.sub o2).mulI _)
  have k0 := Rat.mul_nonneg (show 0 ≤ ((m * 1000000 : Int) : Rat) - nearH (hds t) by grind) (show (0 : Rat) ≤ ((63000000 : Int) : Rat) from rle (a := 0) (by decide))
  have hX : reach t ≤ (bigX : Rat) := by
    have h2 : potD m (goT t none) ≤ (bigX : Rat) := Rat.le_trans hp hB
    rw [e] at h2
    unfold potD at h2
    dsimp only at h2
    grind
  refine ⟨?_, Rat.le_trans hp hB, ?_⟩
  · rw [e]
    exact ⟨⟨D, d0, d1, orr, on, o3, o4, o5⟩, ⟨by dsimp only; grind, hX⟩, ⟨by dsimp only; grind, le⟩, h.fl, h.en, h.ln, h.el⟩
  · rw [e]
    unfold alive
    refine cntP_lt (fun y hy hp => ?_) ⟨x, mx, ?_, ?_⟩
    · simp only [decide_eq_true_eq] at hp ⊢
      grind
    · simp only [decide_eq_false_iff_not]
      rw [ex]; exact Rat.lt_irrefl
    · simp only [decide_eq_true_eq]
      exact (mem_hds.mp hx).2.2
def dk2 : Nat → Td × List Str3 → Td × List Str3
  | 0, s => s
  | k + 1, s => if hds s.1 = [] then s else dk2 k (goT s.1 none, s.2 ++ (goR s.1 none).toList)
@[irreducible] def drain (t : Td) : Td × List Str3 := dk2 (t.fl.length + 1) (t, [])
theorem dk2_stop {s : Td × List Str3} (h : hds s.1 = []) : ∀ k, dk2 k s = s
  | 0 => rfl
  | k + 1 => by
    show (if hds s.1 = [] then s else _) = s
    rw [if_pos h]
theorem dk2_step {s : Td × List Str3} (h : hds s.1 ≠ []) (k : Nat) : dk2 (k + 1) s = dk2 k (goT s.1 none, s.2 ++ (goR s.1 none).toList) := by
  show (if hds s.1 = [] then s else _) = _
  rw [if_neg h]
end

section
theorem goR_len {t : Td} {lim : Option Rat} : (goR t lim).toList.length ≤ 1 := by cases goR t lim <;> simp
theorem rk_len {L : Rat} : ∀ (k : Nat) (s : Td × List Str3), (rk L k s).2.length ≤ s.2.length + k
  | 0, s => Nat.le_refl _
  | k + 1, s => by
    by_cases h : s.1.mo < L
    · rw [rk_step h]
      have h1 := rk_len (L := L) k (goT s.1 (some L), s.2 ++ (goR s.1 (some L)).toList)
      have h2 := goR_len (t := s.1) (lim := some L)
      dsimp only at h1
      rw [List.length_append] at h1
      omega
    · rw [rk_stop h]; omega
theorem rise_len {t : Td} {L : Rat} : (rise t L).2.length ≤ t.fl.length + 1 := by
  unfold rise
  have := rk_len (L := L) (t.fl.length + 1) (t, [])
  simpa using this
theorem dk2_len : ∀ (k : Nat) (s : Td × List Str3), (dk2 k s).2.length ≤ s.2.length + k
  | 0, s => Nat.le_refl _
  | k + 1, s => by
    by_cases h : hds s.1 = []
    · rw [dk2_stop h]; omega
    · rw [dk2_step h]
      have h1 := dk2_len k (goT s.1 none, s.2 ++ (goR s.1 none).toList)
      have h2 := goR_len (t := s.1) (lim := none)
      dsimp only at h1
      rw [List.length_append] at h1
      omega
theorem drain_len {t : Td} : (drain t).2.length ≤ t.fl.length + 1 := by
  unfold drain
  have := dk2_len (t.fl.length + 1) (t, [])
  simpa using this
theorem come_after {t : Td} {at' who len sh : Int} (h : ¬ t.mo < (at' : Rat)) : comeT t at' who len sh = addT t who len sh := by unfold comeT; rw [rise_no h]
@[irreducible] def fstep (s : Td × List Str3) (p : Pie) : Td × List Str3 := (comeT (rise s.1 (p.1 : Rat)).1 p.1 p.2.1 p.2.2.1 p.2.2.2, s.2 ++ (rise s.1 (p.1 : Rat)).2)
def fst0 (row : List Pie) : Td × List Str3 := row.foldl fstep (⟨0, 0, 0, [], []⟩, [])
@[irreducible] def flowS (row : List Pie) : List Str3 := (fst0 row).2 ++ (drain (fst0 row).1).2
structure RowF (row : List Pie) : Prop where
  len : row.length ≤ 60
  each : ∀ p ∈ row, (0 ≤ p.1 ∧ p.1 ≤ 2000000000000) ∧ (1 ≤ p.2.2.1 ∧ p.2.2.1 ≤ 1000000) ∧ (1 ≤ p.2.2.2 ∧ p.2.2.2 ≤ 1000000)
structure Fz (j : Nat) (s : Td × List Str3) : Prop where
  z : TdZ (46 * j) j s.1
  mo : s.1.mo ≤ ((2000000000000 : Int) : Rat)
  ln : s.2.length ≤ 100 * j
theorem Fz.step {j : Nat} {s : Td × List Str3} {p : Pie} (h : Fz j s) (hj : j ≤ 61) (hp : (0 ≤ p.1 ∧ p.1 ≤ 2000000000000) ∧ (1 ≤ p.2.2.1 ∧ p.2.2.1 ≤ 1000000) ∧ (1 ≤ p.2.2.2 ∧ p.2.2.2 ≤ 1000000)) : Fz (j + 1) (fstep s p) := by
  have aX : p.1 ≤ bigX := by unfold bigX; omega
  have r := rise_z h.z (by omega) aX
  have e : fstep s p = (addT (rise s.1 (p.1 : Rat)).1 p.2.1 p.2.2.1 p.2.2.2, s.2 ++ (rise s.1 (p.1 : Rat)).2) := by unfold fstep; rw [come_after r.no]
  rw [e]
  have l1 := rise_len (t := s.1) (L := (p.1 : Rat))
  have l2 := h.z.ln
  have l3 := h.ln
  refine ⟨(r.z.addT (who := p.2.1) hp.2.1 hp.2.2).z, ?_, by dsimp only; rw [List.length_append]; omega⟩
  show (rise s.1 (p.1 : Rat)).1.mo ≤ _
  by_cases hm : s.1.mo ≤ (p.1 : Rat)
  · rw [r.mo hm]; exact rle hp.1.2
  · have : rise s.1 (p.1 : Rat) = (s.1, []) := rise_no (by grind)
    rw [this]; exact h.mo
theorem fz0 : Fz 0 (⟨0, 0, 0, [], []⟩, []) := ⟨tz0, rle (a := 0) (by decide), Nat.le_refl _⟩
end

section
abbrev Dd := List (Int × Rat)
def spst (s : Dd × Dd) (x : Str3) : Dd × Dd := x.2.2.foldl (fun s p => (setD s.1 p.1 x.1, putD s.2 p.1 x.2.1)) s
def spS (l : List Str3) : Dd × Dd := l.foldl spst ([], [])
def spanS (row : List Pie) : List (Rat × Rat) := (List.range row.length).map fun k : Nat => ((getD (k : Int) (spS (flowS row)).1).getD 0, (getD (k : Int) (spS (flowS row)).2).getD 0)
/-- each piece stands in some stretch -/
def HasS (row : List Pie) : Prop := ∀ k < row.length, (∃ b, getD (k : Int) (spS (flowS row)).1 = some b) ∧ ∃ e, getD (k : Int) (spS (flowS row)).2 = some e
theorem len_setD {β : Type} (l : List (Int × β)) (k : Int) (y : β) : (setD l k y).length ≤ l.length + 1 := by
  unfold setD
  split
  · omega
  · rw [List.length_append]; exact Nat.le_refl _
theorem spf_len {x y : Rat} : ∀ (ps : List (Int × Rat)) (s : Dd × Dd), (ps.foldl (fun (s : Dd × Dd) p => (setD s.1 p.1 x, putD s.2 p.1 y)) s).1.length ≤ s.1.length + ps.length ∧ (ps.foldl (fun (s : Dd × Dd) p => (setD s.1 p.1 x, putD s.2 p.1 y)) s).2.length ≤ s.2.length + ps.length
  | [], s => ⟨Nat.le_refl _, Nat.le_refl _⟩
  | p :: ps, s => by
    rw [List.foldl_cons, List.length_cons]
    obtain ⟨h1, h2⟩ := spf_len (x := x) (y := y) ps (setD s.1 p.1 x, putD s.2 p.1 y)
    have l1 := len_setD s.1 p.1 x
    have l2 := len_putD s.2 p.1 y
    dsimp only at h1 h2
    exact ⟨by omega, by omega⟩
/-- stretches are not many, nor long -/
structure Shl (l : List Str3) : Prop where
  n : l.length ≤ 6100
  p : ∀ x ∈ l, x.2.2.length ≤ 63
theorem spS_len {l : List Str3} (h : ∀ x ∈ l, x.2.2.length ≤ 63) : ∀ j ≤ l.length, (spS (l.take j)).1.length ≤ 63 * j ∧ (spS (l.take j)).2.length ≤ 63 * j
  | 0, _ => by rw [List.take_zero]; exact ⟨Nat.le_refl _, Nat.le_refl _⟩
  | j + 1, hj => by
    obtain ⟨h1, h2⟩ := spS_len h j (by omega)
    have hx : l[j]? = some l[j] := List.getElem?_eq_getElem (by omega)
    have hl := h l[j] (List.getElem_mem _)
    have e : spS (l.take (j + 1)) = spst (spS (l.take j)) l[j] := by
      unfold spS
      rw [List.take_succ, hx, List.foldl_append]; rfl
    rw [e]
    unfold spst
    obtain ⟨k1, k2⟩ := spf_len (x := l[j].1) (y := l[j].2.1) l[j].2.2 (spS (l.take j))
    exact ⟨by omega, by omega⟩
theorem goR_parts {t : Td} {lim : Option Rat} {x : Str3} (h : x ∈ (goR t lim).toList) : x.2.2.length ≤ t.fl.length := by
  unfold goR at h
  split at h
  · exact absurd h (by simp)
  · have : x = (t.mo, (goT t lim).mo, (hds t).map fun e => (e.2.2.2, Rat.divInt e.2.2.1 (whS (hds t)))) := by simpa using h
    rw [this]
    show ((hds t).map _).length ≤ _
    rw [List.length_map]
    unfold hds
    exact List.length_filter_le ..
theorem rk_parts {L : Rat} {m : Nat} : ∀ (k : Nat) (s : Td × List Str3), s.1.fl.length ≤ m → (∀ x ∈ s.2, x.2.2.length ≤ m) → ∀ x ∈ (rk L k s).2, x.2.2.length ≤ m
  | 0, s, _, h => h
  | k + 1, s, hf, h => by
    by_cases hlt : s.1.mo < L
    · rw [rk_step hlt]
      refine rk_parts k _ (by rw [(goT_fl (t := s.1) (some L)).1]; exact hf) fun x hx => ?_
      rcases List.mem_append.mp hx with z | z
      · exact h x z
      · exact Nat.le_trans (goR_parts z) hf
    · rw [rk_stop hlt]; exact h
theorem dk2_parts {m : Nat} : ∀ (k : Nat) (s : Td × List Str3), s.1.fl.length ≤ m → (∀ x ∈ s.2, x.2.2.length ≤ m) → ∀ x ∈ (dk2 k s).2, x.2.2.length ≤ m
  | 0, s, _, h => h
  | k + 1, s, hf, h => by
    by_cases hn : hds s.1 = []
    · rw [dk2_stop hn]; exact h
    · rw [dk2_step hn]
      refine dk2_parts k _ (by rw [(goT_fl (t := s.1) none).1]; exact hf) fun x hx => ?_
      rcases List.mem_append.mp hx with z | z
      · exact h x z
      · exact Nat.le_trans (goR_parts z) hf
theorem fst0_all {row : List Pie} (hr : RowF row) : ∀ j ≤ row.length, Fz j (fst0 (row.take j)) ∧ ∀ x ∈ (fst0 (row.take j)).2, x.2.2.length ≤ 63
  | 0, _ => by rw [List.take_zero]; exact ⟨fz0, fun x hx => absurd hx List.not_mem_nil⟩
  | j + 1, hj => by
    obtain ⟨h1, h2⟩ := fst0_all hr j (by omega)
    have hx : row[j]? = some row[j] := List.getElem?_eq_getElem (by omega)
    have h60 := hr.len
    have e : fst0 (row.take (j + 1)) = fstep (fst0 (row.take j)) row[j] := by
      unfold fst0
      rw [List.take_succ, hx, List.foldl_append]; rfl
    rw [e]
    refine ⟨h1.step (by omega) (hr.each _ (List.getElem_mem _)), fun x hx' => ?_⟩
    unfold fstep at hx'
    rcases List.mem_append.mp hx' with z | z
    · exact h2 x z
    · unfold rise at z
      have := h1.z.ln
      exact rk_parts (m := 63) _ _ (by dsimp only; omega) (fun y hy => absurd hy List.not_mem_nil) x z
theorem flowS_shl {row : List Pie} (hr : RowF row) : Shl (flowS row) := by
  obtain ⟨h1, h2⟩ := fst0_all hr row.length (Nat.le_refl _)
  rw [List.take_length] at h1 h2
  have h60 := hr.len
  have l1 := h1.ln
  have l2 := drain_len (t := (fst0 row).1)
  have l3 := h1.z.ln
  unfold flowS
  refine ⟨by rw [List.length_append]; omega, fun x hx => ?_⟩
  rcases List.mem_append.mp hx with z | z
  · exact h2 x z
  · unfold drain at z
    exact dk2_parts (m := 63) _ _ (by dsimp only; omega) (fun y hy => absurd hy List.not_mem_nil) x z
end

/-! the steps in which a place stands -/
def inP (i : Nat) (x : Str3) : Bool := x.2.2.any fun p => decide (p.1 = (i : Int))
def seg (i : Nat) (acc : List Str3) : List Str3 := acc.filter (inP i)
def Chn : Rat → List Str3 → Rat → Prop
  | f, [], l => f = l
  | f, x :: r, l => x.1 = f ∧ x.1 < x.2.1 ∧ Chn x.2.1 r l
theorem Chn.app {x : Str3} : ∀ {f l : Rat} {S : List Str3}, Chn f S l → x.1 = l → x.1 < x.2.1 → Chn f (S ++ [x]) x.2.1
  | f, l, [], h, h1, h2 => ⟨h1.trans (Eq.symm h), h2, rfl⟩
  | f, l, y :: S, h, h1, h2 => ⟨h.1, h.2.1, Chn.app h.2.2 h1 h2⟩
def endS (S : List Str3) : Rat := (S.getLast?.map (·.2.1)).getD 0
theorem Chn.last : ∀ {f l : Rat} {S : List Str3}, Chn f S l → S ≠ [] → endS S = l
  | f, l, [], h, hn => absurd rfl hn
  | f, l, [x], h, _ => (show endS [x] = x.2.1 from rfl).trans h.2.2
  | f, l, x :: y :: S, h, _ => by
    have ih := Chn.last (S := y :: S) h.2.2 (fun z => by cases z)
    unfold endS at ih ⊢
    rw [List.getLast?_cons_cons]
    exact ih
/-- the last place of a sender below j -/
def whoP (ps : List Pie) (i : Nat) : Int := (ps.getD i (0, 0, 0, 0)).2.1
def atP (ps : List Pie) (i : Nat) : Int := (ps.getD i (0, 0, 0, 0)).1
def lp (ps : List Pie) (w : Int) : Nat → Option Nat
  | 0 => none
  | j + 1 => if whoP ps j = w then some j else lp ps w j
theorem getD_app {ps : List Pie} {p : Pie} {i : Nat} (h : i < ps.length) : (ps ++ [p]).getD i (0, 0, 0, 0) = ps.getD i (0, 0, 0, 0) := by
  rw [List.getD_eq_getElem?_getD, List.getD_eq_getElem?_getD, List.getElem?_append_left h]
theorem lp_app {ps : List Pie} {p : Pie} {w : Int} : ∀ j ≤ ps.length, lp (ps ++ [p]) w j = lp ps w j
  | 0, _ => rfl
  | j + 1, h => by
    show (if whoP (ps ++ [p]) j = w then some j else lp (ps ++ [p]) w j) = if whoP ps j = w then some j else lp ps w j
    have e : whoP (ps ++ [p]) j = whoP ps j := by unfold whoP; rw [getD_app (by omega)]
    rw [e, lp_app j (by omega)]
theorem lp_lt {ps : List Pie} {w : Int} : ∀ {j k : Nat}, lp ps w j = some k → k < j ∧ whoP ps k = w
  | 0, k, h => by cases h
  | j + 1, k, h => by
    have h : (if whoP ps j = w then some j else lp ps w j) = some k := h
    split at h
    · rename_i e
      cases h; exact ⟨Nat.lt_succ_self _, e⟩
    · obtain ⟨h1, h2⟩ := lp_lt h
      exact ⟨by omega, h2⟩
def prevP (ps : List Pie) (i : Nat) : Option Nat := lp ps (whoP ps i) i
/-- when a place begins -/
def btP (ps : List Pie) (acc : List Str3) (i : Nat) : Rat := match prevP ps i with
  | none => (atP ps i : Rat)
  | some k => gtr2 (atP ps i : Rat) (endS (seg k acc))
def endG (tg : List Tg) (i : Nat) : Rat := (tg.getD i (0, 0, 0)).2.1
structure Rn (ps : List Pie) (tg : List Tg) (t : Td) (acc : List Str3) : Prop where
  len : tg.length = ps.length
  mn : t.mn = (ps.length : Int)
  tr : Tr tg t
  fl : ∀ e ∈ t.fl, ∃ i : Nat, e.2.2.2 = (i : Int) ∧ tg[i]? = some (tri e)
  lf : ∀ (i : Nat) (g : Tg), tg[i]? = some g → t.he < g.2.1 → ∃ e ∈ t.fl, e.2.2.2 = (i : Int) ∧ tri e = g
  po : ∀ g ∈ tg, g.1 < g.2.1
  en : ∀ w, getD w t.en = (lp ps w ps.length).map (endG tg)
  pv : ∀ (i k : Nat) (g : Tg), tg[i]? = some g → prevP ps i = some k → endG tg k ≤ g.1
  m0 : 0 ≤ t.mo
  wt : ∀ (i : Nat) (g : Tg), tg[i]? = some g → t.he < g.1 → (atP ps i : Rat) ≤ t.mo ∧ ∃ k, prevP ps i = some k ∧ endG tg k = g.1
  no : ∀ (i : Nat) (g : Tg), tg[i]? = some g → t.he ≤ g.1 → seg i acc = []
  at0 : ∀ (i : Nat) (g : Tg), tg[i]? = some g → t.he = g.1 → t.mo = btP ps acc i
  nx : ∀ i, tg.length ≤ i → seg i acc = []
  ch : ∀ (i : Nat) (g : Tg), tg[i]? = some g → g.1 < t.he → ∃ l, Chn (btP ps acc i) (seg i acc) l ∧ seg i acc ≠ [] ∧ l ≤ t.mo ∧ (t.he < g.2.1 → l = t.mo)
theorem rn0 : Rn [] [] ⟨0, 0, 0, [], []⟩ [] := ⟨rfl, rfl, tr0, fun e he => absurd he List.not_mem_nil, fun i g h => by simp at h, fun g hg => absurd hg List.not_mem_nil, fun w => rfl, fun i k g h => by simp at h, Rat.le_refl, fun i g h => by simp at h, fun i g h => by simp at h, fun i g h => by simp at h, fun i _ => rfl, fun i g h => by simp at h⟩
section
variable {ps : List Pie} {tg : List Tg} {t : Td} {acc : List Str3}
theorem seg_app {i : Nat} {x : Str3} : seg i (acc ++ [x]) = if inP i x then seg i acc ++ [x] else seg i acc := by
  unfold seg
  rw [List.filter_append]
  by_cases h : inP i x = true
  · rw [if_pos h, List.filter_cons, if_pos h]; rfl
  · rw [if_neg h, List.filter_cons, if_neg h]
    exact List.append_nil _
/-- who stands in a step -/
theorem inP_step (h : Rn ps tg t acc) {a b : Rat} {w : Int} {i : Nat} {g : Tg} (hg : tg[i]? = some g) : inP i (a, b, (hds t).map fun e => (e.2.2.2, Rat.divInt e.2.2.1 w)) = true ↔ ¬ t.he < g.1 ∧ t.he < g.2.1 := by
  unfold inP
  rw [List.any_eq_true]
  constructor
  · rintro ⟨p, hp, hi⟩
    obtain ⟨e, he, ep⟩ := List.mem_map.mp hp
    obtain ⟨m1, m2, m3⟩ := mem_hds.mp he
    obtain ⟨k, k1, k2⟩ := h.fl e m1
    have hi : p.1 = (i : Int) := of_decide_eq_true hi
    rw [← ep] at hi
    have hik : k = i := by
      have : (k : Int) = (i : Int) := by rw [← k1]; exact hi
      omega
    subst hik
    rw [hg] at k2
    have e2 : g = tri e := Option.some.inj k2
    rw [e2]
    exact ⟨m2, m3⟩
  · rintro ⟨h1, h2⟩
    obtain ⟨e, he, e1, e2⟩ := h.lf i g hg h2
    have hm : e ∈ hds t := mem_hds.mpr ⟨he, by rw [← e2] at h1; exact h1, by rw [← e2] at h2; exact h2⟩
    exact ⟨(e.2.2.2, Rat.divInt e.2.2.1 w), List.mem_map.mpr ⟨e, hm, rfl⟩, decide_eq_true e1⟩
/-- a step up to h' -/
theorem Rn.up (h : Rn ps tg t acc) {h' m' : Rat} {x : Str3} (hn : hds t ≠ []) (hlt : t.he < h') (hle : h' ≤ nearH (hds t)) (hm : t.mo < m') (hx1 : x.1 = t.mo) (hx2 : x.2.1 = m') (hx3 : x.2.2 = (hds t).map fun e => (e.2.2.2, Rat.divInt e.2.2.1 (whS (hds t)))) (htr : Tr tg { t with he := h', mo := m' }) : Rn ps tg { t with he := h', mo := m' } (acc ++ [x]) := by
  have hx : x = (t.mo, m', (hds t).map fun e => (e.2.2.2, Rat.divInt e.2.2.1 (whS (hds t)))) := by
    rw [← hx1, ← hx2, ← hx3]
  have inx : ∀ {i : Nat} {g : Tg}, tg[i]? = some g → (inP i x = true ↔ ¬ t.he < g.1 ∧ t.he < g.2.1) := fun hg => by rw [hx]; exact inP_step h hg
  have wle : ∀ {i : Nat} {g : Tg}, tg[i]? = some g → t.he < g.1 → h' ≤ g.1 := fun {i g} hg hw => by
    obtain ⟨e, he, e1, e2⟩ := h.lf i g hg (by have := h.po g (List.mem_of_getElem? hg); grind)
    have := (h.tr.near he (by rw [← e2] at hw; exact hw)).2
    rw [← e2]
    exact Rat.le_trans hle this
  have ale : ∀ {i : Nat} {g : Tg}, tg[i]? = some g → ¬ t.he < g.1 → t.he < g.2.1 → h' ≤ g.2.1 := fun {i g} hg hw ha => by
    obtain ⟨e, he, e1, e2⟩ := h.lf i g hg ha
    have hm2 : e ∈ hds t := mem_hds.mpr ⟨he, by rw [← e2] at hw; exact hw, by rw [← e2] at ha; exact ha⟩
    have := (hd_pos h.tr.sh hn).2.2.2 e hm2
    rw [← e2]
    exact Rat.le_trans hle this
  -- a place that has ended stays as it is
  have endd : ∀ {k : Nat} {g : Tg}, tg[k]? = some g → ¬ t.he < g.2.1 → seg k (acc ++ [x]) = seg k acc := fun {k g} hg hd => by
    rw [seg_app, if_neg (fun z => hd ((inx hg).mp z).2)]
  have prevg : ∀ {i k : Nat}, i < tg.length → prevP ps i = some k → ∃ g, tg[k]? = some g ∧ endG tg k = g.2.1 := fun {i k} hi hk => by
    have hkl : k < tg.length := by have := (lp_lt hk).1; omega
    exact ⟨tg[k], List.getElem?_eq_getElem hkl, by unfold endG; rw [List.getD_eq_getElem?_getD, List.getElem?_eq_getElem hkl]; rfl⟩
  have bts : ∀ {i : Nat} {g : Tg}, tg[i]? = some g → g.1 ≤ t.he → btP ps (acc ++ [x]) i = btP ps acc i := fun {i g} hg hb => by
    unfold btP
    cases e : prevP ps i with
    | none => rfl
    | some k =>
      obtain ⟨gk, k1, k2⟩ := prevg (List.getElem?_eq_some_iff.mp hg).1 e
      have := h.pv i k g hg e
      rw [k2] at this
      show gtr2 _ (endS (seg k (acc ++ [x]))) = gtr2 _ (endS (seg k acc))
      rw [endd k1 (by grind)]
  refine ⟨h.len, h.mn, htr, h.fl, fun i g hg ha => h.lf i g hg (by dsimp only at ha; grind), h.po, h.en, h.pv, by have := h.m0; dsimp only; grind, fun i g hg hw => ?_, fun i g hg hw => ?_, fun i g hg hw => ?_, fun i hi => ?_, fun i g hg hw => ?_⟩
  · dsimp only at hw ⊢
    obtain ⟨w1, w2⟩ := h.wt i g hg (by grind)
    exact ⟨by grind, w2⟩
  · dsimp only at hw
    have hw0 : t.he < g.1 := by grind
    rw [seg_app, if_neg (fun z => ((inx hg).mp z).1 hw0)]
    exact h.no i g hg (by grind)
  · dsimp only at hw ⊢
    have hw0 : t.he < g.1 := by grind
    obtain ⟨w1, k, w2, w3⟩ := h.wt i g hg hw0
    obtain ⟨gk, k1, k2⟩ := prevg (List.getElem?_eq_some_iff.mp hg).1 w2
    rw [k2] at w3
    -- the sender's place ahead ends just now
    have hka : t.he < gk.2.1 := by grind
    have hkb : ¬ t.he < gk.1 := fun z => by
      have h1 := wle k1 z
      have h2 := h.po gk (List.mem_of_getElem? k1)
      grind
    have hin : inP k x = true := (inx k1).mpr ⟨hkb, hka⟩
    have es : endS (seg k (acc ++ [x])) = m' := by
      rw [seg_app, if_pos hin]
      unfold endS
      rw [List.getLast?_append]
      simp [hx2]
    unfold btP
    rw [w2]
    show m' = gtr2 _ (endS (seg k (acc ++ [x])))
    rw [es]
    unfold gtr2
    rw [if_pos (by grind)]
  · rw [seg_app, if_neg, h.nx i hi]
    intro z
    rw [hx] at z
    unfold inP at z
    obtain ⟨p, hp, hpi⟩ := List.any_eq_true.mp z
    obtain ⟨e, he, ep⟩ := List.mem_map.mp hp
    obtain ⟨k, k1, k2⟩ := h.fl e (mem_hds.mp he).1
    have hpi : p.1 = (i : Int) := of_decide_eq_true hpi
    rw [← ep] at hpi
    have hki : (k : Int) = (i : Int) := by rw [← k1]; exact hpi
    have := (List.getElem?_eq_some_iff.mp k2).1
    omega
  · dsimp only at hw ⊢
    by_cases hb : g.1 < t.he
    · obtain ⟨l, c1, c2, c3, c4⟩ := h.ch i g hg hb
      rw [bts hg (by grind)]
      by_cases ha : t.he < g.2.1
      · have hin : inP i x = true := (inx hg).mpr ⟨by grind, ha⟩
        rw [seg_app, if_pos hin]
        have el := c4 ha
        refine ⟨x.2.1, c1.app (by rw [hx1, el]) (by rw [hx1, hx2]; exact hm), by simp, by rw [hx2]; exact Rat.le_refl, fun _ => hx2⟩
      · rw [endd hg ha]
        exact ⟨l, c1, c2, by grind, fun z => absurd (show t.he < g.2.1 by grind) ha⟩
    · by_cases he : t.he = g.1
      · have hpo := h.po g (List.mem_of_getElem? hg)
        have hin : inP i x = true := (inx hg).mpr ⟨by grind, by grind⟩
        have hs := h.no i g hg (by grind)
        have hm0 := h.at0 i g hg he
        rw [seg_app, if_pos hin, hs, bts hg (by grind)]
        exact ⟨x.2.1, ⟨by rw [hx1, hm0], by rw [hx1, hx2]; exact hm, rfl⟩, by simp, by rw [hx2]; exact Rat.le_refl, fun _ => hx2⟩
      · have hw0 : t.he < g.1 := by grind
        have := wle hg hw0
        grind
theorem Rn.idle (h : Rn ps tg t acc) (hn : hds t = []) {L : Rat} (hL : t.mo ≤ L) : Rn ps tg { t with mo := L } acc := by
  have dead : ∀ {i : Nat} {g : Tg}, tg[i]? = some g → ¬ t.he < g.2.1 := fun {i g} hg ha => by
    obtain ⟨e, he, e1, e2⟩ := h.lf i g hg ha
    exact h.tr.dead hn e he (by rw [← e2] at ha; exact ha)
  refine ⟨h.len, h.mn, ⟨h.tr.se, h.tr.ch, h.tr.po, h.tr.sh, h.tr.la, h.tr.en, h.tr.h0⟩, h.fl, h.lf, h.po, h.en, h.pv, by have := h.m0; dsimp only; grind, fun i g hg hw => ?_, h.no, fun i g hg hw => ?_, h.nx, fun i g hg hw => ?_⟩
  · have := h.po g (List.mem_of_getElem? hg)
    exact absurd (show t.he < g.2.1 by dsimp only at hw; grind) (dead hg)
  · have := h.po g (List.mem_of_getElem? hg)
    exact absurd (show t.he < g.2.1 by dsimp only at hw; grind) (dead hg)
  · obtain ⟨l, c1, c2, c3, c4⟩ := h.ch i g hg hw
    exact ⟨l, c1, c2, by dsimp only; grind, fun z => absurd z (dead hg)⟩
theorem Rn.go (h : Rn ps tg t acc) {L : Rat} (hL : t.mo < L) : Rn ps tg (goT t (some L)) (acc ++ (goR t (some L)).toList) := by
  have hg := h.tr.go hL
  rcases goT_cases (t := t) (L := L) with ⟨hn, e⟩ | ⟨hn, hc, e⟩ | ⟨hn, hc, e⟩
  · have er : goR t (some L) = none := by unfold goR; rw [if_pos hn]
    rw [er, e]
    show Rn ps tg _ (acc ++ [])
    rw [List.append_nil]
    exact h.idle hn (by grind)
  · have er : goR t (some L) = some (t.mo, (goT t (some L)).mo, (hds t).map fun e => (e.2.2.2, Rat.divInt e.2.2.1 (whS (hds t)))) := by unfold goR; rw [if_neg hn]
    obtain ⟨e1, e2, e3⟩ := cut_bd h.tr.sh hn hL hc
    have htr := hg.tr
    rw [er]
    rw [e] at htr ⊢
    exact h.up (x := (t.mo, L, _)) hn (by grind) (by grind) hL rfl rfl rfl htr
  · have er : goR t (some L) = some (t.mo, (goT t (some L)).mo, (hds t).map fun e => (e.2.2.2, Rat.divInt e.2.2.1 (whS (hds t)))) := by unfold goR; rw [if_neg hn]
    obtain ⟨w0, lt, _, _⟩ := hd_pos h.tr.sh hn
    have htr := hg.tr
    have hmo := hg.mo.2
    rw [er]
    rw [e] at htr hmo ⊢
    exact h.up (x := (t.mo, reach t, _)) hn lt Rat.le_refl hmo rfl rfl rfl htr
theorem rn_rk {L : Rat} : ∀ (k : Nat) (t : Td) (acc : List Str3), Rn ps tg t acc → Rn ps tg (rk L k (t, acc)).1 (rk L k (t, acc)).2
  | 0, t, acc, h => h
  | k + 1, t, acc, h => by
    by_cases hlt : t.mo < L
    · rw [rk_step (s := (t, acc)) hlt]
      exact rn_rk k _ _ (h.go hlt)
    · rw [rk_stop (s := (t, acc)) hlt]; exact h
theorem rk_acc {L : Rat} : ∀ (k : Nat) (t : Td) (acc a2 : List Str3), rk L k (t, acc ++ a2) = ((rk L k (t, a2)).1, acc ++ (rk L k (t, a2)).2)
  | 0, t, acc, a2 => rfl
  | k + 1, t, acc, a2 => by
    by_cases hlt : t.mo < L
    · rw [rk_step (s := (t, acc ++ a2)) hlt, rk_step (s := (t, a2)) hlt]
      dsimp only
      rw [List.append_assoc]
      exact rk_acc k _ acc _
    · rw [rk_stop (s := (t, acc ++ a2)) hlt, rk_stop (s := (t, a2)) hlt]
theorem Rn.rise (h : Rn ps tg t acc) (L : Rat) : Rn ps tg (Y.rise t L).1 (acc ++ (Y.rise t L).2) := by
  have h1 := rn_rk (L := L) (t.fl.length + 1) t acc h
  have e := rk_acc (L := L) (t.fl.length + 1) t acc []
  rw [List.append_nil] at e
  rw [e] at h1
  unfold Y.rise
  exact h1
theorem Rn.goN (h : Rn ps tg t acc) (hn : hds t ≠ []) : Rn ps tg (goT t none) (acc ++ (goR t none).toList) := by
  obtain ⟨e, er⟩ := goT_none hn
  obtain ⟨w0, lt, _, _⟩ := hd_pos h.tr.sh hn
  have wq : (0 : Rat) < (whS (hds t) : Rat) := by exact_mod_cast w0
  have hmo : t.mo < reach t := by
    have := Rat.mul_pos (a := nearH (hds t) - t.he) (b := (whS (hds t) : Rat)) (by grind) wq
    unfold reach; grind
  rw [er, e]
  exact h.up (x := (t.mo, reach t, _)) hn lt Rat.le_refl hmo rfl rfl rfl (h.tr.rise1 (m' := reach t) hn lt Rat.le_refl (.inr rfl)).2
theorem rn_dk : ∀ (k : Nat) (t : Td) (acc : List Str3), Rn ps tg t acc → Rn ps tg (dk2 k (t, acc)).1 (dk2 k (t, acc)).2
  | 0, t, acc, h => h
  | k + 1, t, acc, h => by
    by_cases hn : hds t = []
    · rw [dk2_stop (s := (t, acc)) hn]; exact h
    · rw [dk2_step (s := (t, acc)) hn]
      exact rn_dk k _ _ (h.goN hn)
theorem dk_acc : ∀ (k : Nat) (t : Td) (acc a2 : List Str3), dk2 k (t, acc ++ a2) = ((dk2 k (t, a2)).1, acc ++ (dk2 k (t, a2)).2)
  | 0, t, acc, a2 => rfl
  | k + 1, t, acc, a2 => by
    by_cases hn : hds t = []
    · rw [dk2_stop (s := (t, acc ++ a2)) hn, dk2_stop (s := (t, a2)) hn]
    · rw [dk2_step (s := (t, acc ++ a2)) hn, dk2_step (s := (t, a2)) hn]
      dsimp only
      rw [List.append_assoc]
      exact dk_acc k _ acc _
theorem Rn.drain (h : Rn ps tg t acc) : Rn ps tg (Y.drain t).1 (acc ++ (Y.drain t).2) := by
  have h1 := rn_dk (t.fl.length + 1) t acc h
  have e := dk_acc (t.fl.length + 1) t acc []
  rw [List.append_nil] at e
  rw [e] at h1
  unfold Y.drain
  exact h1
theorem goN_alive (hs : ∀ e ∈ t.fl, 1 ≤ e.2.2.1) (hn : hds t ≠ []) : alive (goT t none) < alive t ∧ (goT t none).fl = t.fl := by
  obtain ⟨e, er⟩ := goT_none hn
  obtain ⟨w0, lt, ⟨x, hx, ex⟩, _⟩ := hd_pos hs hn
  rw [e]
  refine ⟨?_, rfl⟩
  unfold alive
  refine cntP_lt (fun y hy hp => ?_) ⟨x, (mem_hds.mp hx).1, ?_, ?_⟩
  · simp only [decide_eq_true_eq] at hp ⊢
    grind
  · simp only [decide_eq_false_iff_not]
    rw [ex]; exact Rat.lt_irrefl
  · simp only [decide_eq_true_eq]
    exact (mem_hds.mp hx).2.2
theorem dk_end : ∀ (k : Nat) (s : Td × List Str3), (∀ e ∈ s.1.fl, 1 ≤ e.2.2.1) → alive s.1 < k → hds (dk2 k s).1 = []
  | 0, s, _, h => absurd h (Nat.not_lt_zero _)
  | k + 1, s, hs, h => by
    by_cases hn : hds s.1 = []
    · rw [dk2_stop hn]; exact hn
    · rw [dk2_step hn]
      obtain ⟨a1, a2⟩ := goN_alive hs hn
      exact dk_end k _ (by dsimp only; rw [a2]; exact hs) (by dsimp only; omega)
theorem drain_end (hs : ∀ e ∈ t.fl, 1 ≤ e.2.2.1) : hds (Y.drain t).1 = [] := by
  unfold Y.drain
  exact dk_end _ (t, []) hs (Nat.lt_succ_of_le alive_le)
theorem prevP_app {p : Pie} {i : Nat} (h : i < ps.length) : prevP (ps ++ [p]) i = prevP ps i := by
  unfold prevP
  have e : whoP (ps ++ [p]) i = whoP ps i := by unfold whoP; rw [getD_app h]
  rw [e, lp_app i (by omega)]
theorem btP_app {p : Pie} {i : Nat} (h : i < ps.length) : btP (ps ++ [p]) acc i = btP ps acc i := by
  unfold btP
  have e : atP (ps ++ [p]) i = atP ps i := by unfold atP; rw [getD_app h]
  rw [prevP_app h, e]
theorem endG_app {g : Tg} {k : Nat} (h : k < tg.length) : endG (tg ++ [g]) k = endG tg k := by
  unfold endG
  rw [List.getD_eq_getElem?_getD, List.getD_eq_getElem?_getD, List.getElem?_append_left h]
theorem Rn.add (h : Rn ps tg t acc) {p : Pie} (hl : 1 ≤ p.2.2.1) (hs : 1 ≤ p.2.2.2) (hmo : t.mo = (p.1 : Rat)) : Rn (ps ++ [p]) (tg ++ [(begT t p.2.1, begT t p.2.1 + Rat.divInt p.2.2.1 p.2.2.2, p.2.2.2)]) (addT t p.2.1 p.2.2.1 p.2.2.2) acc := by
  have htr := h.tr.add (who := p.2.1) hl hs
  have hb : t.he ≤ begT t p.2.1 := by unfold begT gtr2; split <;> grind
  have hd : 0 < Rat.divInt p.2.2.1 p.2.2.2 := by
    rw [Rat.divInt_eq_div]
    have h1 : (0 : Rat) < (p.2.2.1 : Rat) := by
      have : 0 < p.2.2.1 := by omega
      exact_mod_cast this
    have h2 : (0 : Rat) < (p.2.2.2 : Rat) := by
      have : 0 < p.2.2.2 := by omega
      exact_mod_cast this
    rw [Rat.div_def]
    exact Rat.mul_pos h1 (Rat.inv_pos.mpr h2)
  have hlen := h.len
  have eb : begT t p.2.1 = gtr2 t.he ((getD p.2.1 t.en).getD 0) := by unfold begT; rfl
  have hen := h.en p.2.1
  have h0 := h.tr.h0
  have wl : whoP (ps ++ [p]) ps.length = p.2.1 := by unfold whoP; rw [List.getD_eq_getElem?_getD]; simp
  have al : atP (ps ++ [p]) ps.length = p.1 := by unfold atP; rw [List.getD_eq_getElem?_getD]; simp
  have pvl : prevP (ps ++ [p]) ps.length = lp ps p.2.1 ps.length := by unfold prevP; rw [wl, lp_app _ (Nat.le_refl _)]
  obtain ⟨b, ebb⟩ : ∃ b, begT t p.2.1 = b := ⟨_, rfl⟩
  obtain ⟨d, ed⟩ : ∃ d, Rat.divInt p.2.2.1 p.2.2.2 = d := ⟨_, rfl⟩
  have eadd : addT t p.2.1 p.2.2.1 p.2.2.2 = { t with en := putD t.en p.2.1 (b + d), fl := t.fl.filter (fun e => decide (t.he < e.2.1)) ++ [(b, b + d, p.2.2.2, t.mn)], mn := t.mn + 1 } := by unfold addT; rw [ebb, ed]
  rw [eadd] at htr ⊢
  rw [ebb, ed] at htr ⊢
  rw [ebb] at hb eb
  rw [ed] at hd
  have cs : ∀ {i : Nat} {g : Tg}, (tg ++ [(b, b + d, p.2.2.2)])[i]? = some g → (i < tg.length ∧ tg[i]? = some g) ∨ (i = tg.length ∧ g = (b, b + d, p.2.2.2)) := fun {i g} hg => by
    by_cases hi : i < tg.length
    · rw [List.getElem?_append_left hi] at hg
      exact .inl ⟨hi, hg⟩
    · have hlt := (List.getElem?_eq_some_iff.mp hg).1
      rw [List.length_append, List.length_singleton] at hlt
      have e : i = tg.length := by omega
      subst e
      rw [List.getElem?_append_right (Nat.le_refl _), Nat.sub_self] at hg
      exact .inr ⟨rfl, (Option.some.inj hg).symm⟩
  have up : ∀ {i : Nat} {g : Tg}, tg[i]? = some g → (tg ++ [(b, b + d, p.2.2.2)])[i]? = some g := fun {i g} hg => by rw [List.getElem?_append_left (List.getElem?_eq_some_iff.mp hg).1]; exact hg
  have un : (tg ++ [(b, b + d, p.2.2.2)])[tg.length]? = some (b, b + d, p.2.2.2) := by rw [List.getElem?_append_right (Nat.le_refl _), Nat.sub_self]; rfl
  refine ⟨by rw [List.length_append, List.length_append, hlen]; rfl, by dsimp only; rw [h.mn, List.length_append]; rfl, htr, fun e he => ?_, fun i g hg ha => ?_, fun g hg => ?_, fun w => ?_, fun i k g hg hk => ?_, h.m0, fun i g hg hw => ?_, fun i g hg hw => ?_, fun i g hg hw => ?_, fun i hi => h.nx i (by rw [List.length_append] at hi; omega), fun i g hg hw => ?_⟩
  · rcases List.mem_append.mp he with q | q
    · obtain ⟨i, i1, i2⟩ := h.fl e (List.mem_filter.mp q).1
      exact ⟨i, i1, up i2⟩
    · rw [List.mem_singleton.mp q]
      exact ⟨tg.length, by rw [hlen]; exact h.mn, un⟩
  · dsimp only at ha ⊢
    rcases cs hg with ⟨hi, hg⟩ | ⟨hi, hg⟩
    · obtain ⟨e, e1, e2, e3⟩ := h.lf i g hg ha
      exact ⟨e, List.mem_append_left _ (List.mem_filter.mpr ⟨e1, decide_eq_true (by rw [← e3] at ha; exact ha)⟩), e2, e3⟩
    · exact ⟨(b, b + d, p.2.2.2, t.mn), List.mem_append_right _ (List.mem_singleton.mpr rfl), by rw [hi, hlen]; exact h.mn, hg.symm⟩
  · rcases List.mem_append.mp hg with q | q
    · exact h.po g q
    · rw [List.mem_singleton.mp q]; dsimp only; grind
  · dsimp only
    rw [getD_put, List.length_append, List.length_singleton]
    show _ = (if whoP (ps ++ [p]) ps.length = w then some ps.length else lp (ps ++ [p]) w ps.length).map _
    rw [wl, lp_app _ (Nat.le_refl _)]
    by_cases hw : w = p.2.1
    · rw [if_pos hw, if_pos hw.symm]
      show some (b + d) = some (endG _ ps.length)
      unfold endG
      rw [List.getD_eq_getElem?_getD, ← hlen, un]; rfl
    · rw [if_neg hw, if_neg (fun z => hw z.symm), h.en w]
      cases e : lp ps w ps.length with
      | none => rfl
      | some k =>
        have := (lp_lt e).1
        show some _ = some _
        rw [endG_app (by omega)]
  · rcases cs hg with ⟨hi, hg⟩ | ⟨hi, hg⟩
    · rw [prevP_app (by omega)] at hk
      have := (lp_lt hk).1
      rw [endG_app (by omega)]
      exact h.pv i k g hg hk
    · rw [hi, hlen, pvl] at hk
      have := (lp_lt hk).1
      rw [endG_app (by omega), hg]
      rw [hk] at hen
      rw [eb, hen]
      show endG tg k ≤ gtr2 t.he (endG tg k)
      unfold gtr2
      split <;> grind
  · dsimp only at hw ⊢
    rcases cs hg with ⟨hi, hg⟩ | ⟨hi, hg⟩
    · obtain ⟨w1, k, w2, w3⟩ := h.wt i g hg hw
      have e : atP (ps ++ [p]) i = atP ps i := by unfold atP; rw [getD_app (by omega)]
      have := (lp_lt w2).1
      rw [e]
      exact ⟨w1, k, by rw [prevP_app (by omega)]; exact w2, by rw [endG_app (by omega)]; exact w3⟩
    · rw [hi, hlen, al, pvl]
      rw [hg] at hw ⊢
      dsimp only at hw ⊢
      refine ⟨by rw [hmo]; exact Rat.le_refl, ?_⟩
      cases e : lp ps p.2.1 ps.length with
      | none =>
        rw [e] at hen
        rw [eb, hen] at hw
        unfold gtr2 at hw
        exfalso
        have : ((none : Option Nat).map (endG tg)).getD 0 = 0 := rfl
        rw [this] at hw
        split at hw <;> grind
      | some k =>
        rw [e] at hen
        have hkl := (lp_lt e).1
        refine ⟨k, rfl, ?_⟩
        rw [endG_app (by omega)]
        rw [eb, hen] at hw ⊢
        show endG tg k = gtr2 t.he (endG tg k)
        have hw : t.he < gtr2 t.he (endG tg k) := hw
        unfold gtr2 at hw ⊢
        split at hw
        · rename_i hc; rw [if_pos hc]
        · exact absurd hw Rat.lt_irrefl
  · dsimp only at hw
    rcases cs hg with ⟨hi, hg⟩ | ⟨hi, hg⟩
    · exact h.no i g hg hw
    · exact h.nx i (by omega)
  · dsimp only at hw ⊢
    rcases cs hg with ⟨hi, hg⟩ | ⟨hi, hg⟩
    · rw [btP_app (by omega)]
      exact h.at0 i g hg hw
    · rw [hg] at hw
      dsimp only at hw
      unfold btP
      rw [hi, hlen, pvl, al]
      cases e : lp ps p.2.1 ps.length with
      | none => exact hmo
      | some k =>
        rw [e] at hen
        have hkl := (lp_lt e).1
        have hkg : tg[k]? = some tg[k] := List.getElem?_eq_getElem (by omega)
        have hpo := h.po tg[k] (List.getElem_mem _)
        have heg : endG tg k = tg[k].2.1 := by unfold endG; rw [List.getD_eq_getElem?_getD, hkg]; rfl
        have hle : endG tg k ≤ t.he := by
          rw [eb, hen] at hw
          have hw : t.he = gtr2 t.he (endG tg k) := hw
          unfold gtr2 at hw
          split at hw <;> grind
        obtain ⟨l, c1, c2, c3, c4⟩ := h.ch k tg[k] hkg (by rw [heg] at hle; grind)
        show t.mo = gtr2 (p.1 : Rat) (endS (seg k acc))
        rw [c1.last c2]
        unfold gtr2
        rw [if_neg (by rw [← hmo]; grind), hmo]
  · dsimp only at hw ⊢
    rcases cs hg with ⟨hi, hg⟩ | ⟨hi, hg⟩
    · rw [btP_app (by omega)]
      exact h.ch i g hg hw
    · rw [hg] at hw
      dsimp only at hw
      grind
end
section
theorem flow_pre {row : List Pie} (hr : RowF row) (hs : row.Pairwise fun a b => a.1 ≤ b.1) : ∀ j ≤ row.length, ∃ tg, Rn (row.take j) tg (fst0 (row.take j)).1 (fst0 (row.take j)).2 ∧ ∀ p ∈ row.drop j, (fst0 (row.take j)).1.mo ≤ (p.1 : Rat)
  | 0, _ => ⟨[], by rw [List.take_zero]; exact rn0, fun p hp => by
      rw [List.take_zero]
      show (0 : Rat) ≤ (p.1 : Rat)
      exact rle (a := 0) (hr.each p (List.mem_of_mem_drop hp)).1.1⟩
  | j + 1, hj => by
    obtain ⟨tg, h1, h2⟩ := flow_pre hr hs j (by omega)
    have hx : row[j]? = some row[j] := List.getElem?_eq_getElem (by omega)
    have e : fst0 (row.take (j + 1)) = fstep (fst0 (row.take j)) row[j] := by
      unfold fst0
      rw [List.take_succ, hx, List.foldl_append]; rfl
    have et : row.take (j + 1) = row.take j ++ [row[j]] := by rw [List.take_succ, hx]; rfl
    obtain ⟨p, ep⟩ : ∃ p, row[j] = p := ⟨_, rfl⟩
    have hpm : p ∈ row := by rw [← ep]; exact List.getElem_mem _
    have hp := hr.each p hpm
    have hle := h2 p (by rw [List.mem_iff_getElem?]; exact ⟨0, by rw [List.getElem?_drop]; show row[j]? = _; rw [hx, ep]⟩)
    obtain ⟨fz, _⟩ := fst0_all hr j (by omega)
    have h60 := hr.len
    have aX : p.1 ≤ bigX := by unfold bigX; omega
    have rz := rise_z fz.z (by omega) aX
    have hmo := rz.mo hle
    have e2 : fstep (fst0 (row.take j)) p = (addT (rise (fst0 (row.take j)).1 (p.1 : Rat)).1 p.2.1 p.2.2.1 p.2.2.2, (fst0 (row.take j)).2 ++ (rise (fst0 (row.take j)).1 (p.1 : Rat)).2) := by unfold fstep; rw [come_after rz.no]
    rw [e, et, ep, e2]
    have r1 := h1.rise (p.1 : Rat)
    refine ⟨_, r1.add (p := p) hp.2.1.1 hp.2.2.1 hmo, fun q hq => ?_⟩
    show (rise (fst0 (row.take j)).1 (p.1 : Rat)).1.mo ≤ _
    rw [hmo]
    obtain ⟨k, hk⟩ := List.mem_iff_getElem?.mp hq
    rw [List.getElem?_drop] at hk
    have := List.pairwise_iff_getElem.mp hs j (j + 1 + k) (by omega) (List.getElem?_eq_some_iff.mp hk).1 (by omega)
    rw [ep, (List.getElem?_eq_some_iff.mp hk).2] at this
    exact rle this
/-- what the flow of a row is -/
structure Flo (row : List Pie) (l : List Str3) : Prop where
  ch : ∀ i < row.length, Chn (btP row l i) (seg i l) (endS (seg i l)) ∧ seg i l ≠ []
theorem flow_flo {row : List Pie} (hr : RowF row) (hs : row.Pairwise fun a b => a.1 ≤ b.1) : Flo row (flowS row) := by
  obtain ⟨tg, h1, h2⟩ := flow_pre hr hs row.length (Nat.le_refl _)
  rw [List.take_length] at h1
  have hd := h1.drain
  have hen := drain_end h1.tr.sh
  have ef : flowS row = (fst0 row).2 ++ (drain (fst0 row).1).2 := by unfold flowS; rfl
  rw [← ef] at hd
  refine ⟨fun i hi => ?_⟩
  have hlen := hd.len
  have hg : tg[i]? = some (tg[i]'(by omega)) := List.getElem?_eq_getElem (by omega)
  have hpo := hd.po _ (List.mem_of_getElem? hg)
  have dead : ¬ (drain (fst0 row).1).1.he < (tg[i]'(by omega)).2.1 := fun ha => by
    obtain ⟨e, he, e1, e2⟩ := hd.lf i _ hg ha
    exact hd.tr.dead hen e he (by rw [← e2] at ha; exact ha)
  obtain ⟨l, c1, c2, c3, c4⟩ := hd.ch i _ hg (by grind)
  rw [c1.last c2]
  exact ⟨c1, c2⟩
/-- what spans gathers -/
theorem getD_set {β : Type} {k j : Int} {y : β} {l : List (Int × β)} : getD j (setD l k y) = if j = k then some ((getD k l).getD y) else getD j l := by
  by_cases h : hasD k l = true
  · have e : setD l k y = l := by unfold setD; rw [if_pos h]
    rw [e]
    split
    · rename_i z
      subst z
      rw [hasD_get] at h
      cases q : getD j l with
      | none => rw [q] at h; cases h
      | some v => rfl
    · rfl
  · rw [setD_put h, getD_put]
    have hn : getD k l = none := by
      rw [hasD_get] at h
      cases z : getD k l with
      | none => rfl
      | some x => rw [z] at h; exact absurd rfl h
    rw [hn]; rfl
theorem spf_get {x y : Rat} {i : Nat} : ∀ (ps : List (Int × Rat)) (s : Dd × Dd), getD (i : Int) (ps.foldl (fun (s : Dd × Dd) p => (setD s.1 p.1 x, putD s.2 p.1 y)) s).1 = (if ps.any (fun p => decide (p.1 = (i : Int))) then some ((getD (i : Int) s.1).getD x) else getD (i : Int) s.1) ∧ getD (i : Int) (ps.foldl (fun (s : Dd × Dd) p => (setD s.1 p.1 x, putD s.2 p.1 y)) s).2 = (if ps.any (fun p => decide (p.1 = (i : Int))) then some y else getD (i : Int) s.2)
  | [], s => ⟨rfl, rfl⟩
  | p :: ps, s => by
    rw [List.foldl_cons, List.any_cons]
    obtain ⟨h1, h2⟩ := spf_get (x := x) (y := y) (i := i) ps (setD s.1 p.1 x, putD s.2 p.1 y)
    rw [h1, h2]
    dsimp only
    rw [getD_set, getD_put]
    by_cases e : p.1 = (i : Int)
    · rw [if_pos e.symm, if_pos e.symm, decide_eq_true e, e]
      constructor
      · by_cases z : (ps.any fun p => decide (p.1 = (i : Int))) = true
        · rw [if_pos z]; simp
        · rw [if_neg z]; simp
      · by_cases z : (ps.any fun p => decide (p.1 = (i : Int))) = true
        · rw [if_pos z]; simp
        · rw [if_neg z]; simp
    · have n1 : ¬ ((i : Int) = p.1) := fun z => e z.symm
      rw [decide_eq_false e, Bool.false_or]
      simp only [if_neg n1]
      exact ⟨trivial, trivial⟩
theorem spS_get {i : Nat} (l : List Str3) : getD (i : Int) (spS l).1 = (seg i l).head?.map (·.1) ∧ getD (i : Int) (spS l).2 = (seg i l).getLast?.map (·.2.1) := by
  have key : ∀ r : List Str3, getD (i : Int) (spS r.reverse).1 = (seg i r.reverse).head?.map (·.1) ∧ getD (i : Int) (spS r.reverse).2 = (seg i r.reverse).getLast?.map (·.2.1) := fun r => by
    induction r with
    | nil => exact ⟨rfl, rfl⟩
    | cons x r ih =>
      rw [List.reverse_cons]
      obtain ⟨h1, h2⟩ := ih
      have e : spS (r.reverse ++ [x]) = spst (spS r.reverse) x := by unfold spS; rw [List.foldl_append]; rfl
      obtain ⟨k1, k2⟩ := spf_get (x := x.1) (y := x.2.1) (i := i) x.2.2 (spS r.reverse)
      rw [e, seg_app]
      unfold spst
      rw [k1, k2, h1, h2]
      by_cases z : inP i x = true
      · have z' : (x.2.2.any fun p => decide (p.1 = (i : Int))) = true := z
        rw [if_pos z', if_pos z', if_pos z]
        constructor
        · rw [List.head?_append]
          cases (seg i r.reverse).head? <;> rfl
        · rw [List.getLast?_append]; rfl
      · have z' : ¬ (x.2.2.any fun p => decide (p.1 = (i : Int))) = true := z
        rw [if_neg z', if_neg z', if_neg z]
        exact ⟨rfl, rfl⟩
  have := key l.reverse
  rw [List.reverse_reverse] at this
  exact this
theorem Flo.has {row : List Pie} (h : Flo row (flowS row)) : HasS row := fun k hk => by
  obtain ⟨g1, g2⟩ := spS_get (i := k) (flowS row)
  obtain ⟨c1, c2⟩ := h.ch k hk
  rw [g1, g2]
  cases e : seg k (flowS row) with
  | nil => exact absurd e c2
  | cons x r =>
    refine ⟨⟨x.1, rfl⟩, ?_⟩
    cases e2 : (x :: r).getLast? with
    | none => simp at e2
    | some y => exact ⟨y.2.1, rfl⟩
theorem Flo.span {row : List Pie} (h : Flo row (flowS row)) {k : Nat} (hk : k < row.length) : (spanS row)[k]? = some (btP row (flowS row) k, endS (seg k (flowS row))) := by
  obtain ⟨g1, g2⟩ := spS_get (i := k) (flowS row)
  obtain ⟨c1, c2⟩ := h.ch k hk
  unfold spanS
  rw [List.getElem?_map, List.getElem?_range hk]
  show some ((getD (k : Int) (spS (flowS row)).1).getD 0, (getD (k : Int) (spS (flowS row)).2).getD 0) = _
  rw [g1, g2]
  cases e : seg k (flowS row) with
  | nil => exact absurd e c2
  | cons x r =>
    rw [e] at c1
    have h1 : x.1 = btP row (flowS row) k := c1.1
    show some (x.1, _) = _
    rw [h1]; rfl
end

section
theorem step_sz {xs : List Rat} {n m : Nat} {t : Td} (h : TdG xs n m t) (hn : n ≤ 4100) (hm : m ≤ 63) {L : Int} (hL : t.mo < (L : Rat)) (hX : L ≤ bigX) : ∀ x ∈ (goR t (some (L : Rat))).toList, Sz x.1 ∧ Sz x.2.1 := fun x hx => by
  unfold goR at hx
  split at hx
  · exact absurd hx (by simp)
  · have e : x = (t.mo, (goT t (some (L : Rat))).mo, (hds t).map fun e => (e.2.2.2, Rat.divInt e.2.2.1 (whS (hds t)))) := by simpa using hx
    rw [e]
    refine ⟨(h.fz (by omega) hm).2.1, ?_⟩
    rcases h.step hm hL hX with w | w
    · exact (w.2.fz (by omega) hm).2.1
    · exact (w.2.2.fz (by omega) hm).2.1
theorem rk_sz {xs : List Rat} {n m : Nat} (hn : n ≤ 4100) (hm : m ≤ 63) {L : Int} (hX : L ≤ bigX) : ∀ (k : Nat) (s : Td × List Str3), (TdG xs n m s.1 ∨ ¬ s.1.mo < (L : Rat)) → (∀ x ∈ s.2, Sz x.1 ∧ Sz x.2.1) → ∀ x ∈ (rk (L : Rat) k s).2, Sz x.1 ∧ Sz x.2.1
  | 0, s, _, h => h
  | k + 1, s, hz, h => by
    by_cases hlt : s.1.mo < (L : Rat)
    · rw [rk_step hlt]
      have hz : TdG xs n m s.1 := by
        rcases hz with z | z
        · exact z
        · exact absurd hlt z
      refine rk_sz (xs := xs) (n := n) (m := m) hn hm hX k _ ?_ fun x hx => ?_
      · dsimp only
        rcases hz.step hm hlt hX with w | w
        · exact .inr (by rw [w.1]; exact Rat.lt_irrefl)
        · exact .inl w.2.2
      · rcases List.mem_append.mp hx with z | z
        · exact h x z
        · exact step_sz hz hn hm hlt hX x z
    · rw [rk_stop hlt]; exact h
theorem dk_sz {xs : List Rat} {n m : Nat} (hn : n ≤ 4100) (hm : m ≤ 63) : ∀ (k : Nat) (s : Td × List Str3), TdG xs n m s.1 → potD m s.1 ≤ (bigX : Rat) → (∀ x ∈ s.2, Sz x.1 ∧ Sz x.2.1) → ∀ x ∈ (dk2 k s).2, Sz x.1 ∧ Sz x.2.1
  | 0, s, _, _, h => h
  | k + 1, s, hz, hp, h => by
    by_cases hne : hds s.1 = []
    · rw [dk2_stop hne]; exact h
    · rw [dk2_step hne]
      obtain ⟨s1, s2, s3⟩ := drain_step hz hm hne hp
      obtain ⟨g1, g2⟩ := goT_none hne
      refine dk_sz hn hm k _ s1 s2 fun x hx => ?_
      rcases List.mem_append.mp hx with z | z
      · exact h x z
      · rw [g2] at z
        have e : x = (s.1.mo, reach s.1, (hds s.1).map fun e => (e.2.2.2, Rat.divInt e.2.2.1 (whS (hds s.1)))) := by simpa using z
        have hm2 := (s1.fz (by omega) hm).2.1
        rw [g1] at hm2
        rw [e]
        exact ⟨(hz.fz (by omega) hm).2.1, hm2⟩
theorem fst_sz {row : List Pie} (hr : RowF row) : ∀ j ≤ row.length, ∀ x ∈ (fst0 (row.take j)).2, Sz x.1 ∧ Sz x.2.1
  | 0, _ => by rw [List.take_zero]; exact fun x hx => absurd hx List.not_mem_nil
  | j + 1, hj => by
    have ih := fst_sz hr j (by omega)
    have hx : row[j]? = some row[j] := List.getElem?_eq_getElem (by omega)
    have h60 := hr.len
    have e : fst0 (row.take (j + 1)) = fstep (fst0 (row.take j)) row[j] := by
      unfold fst0
      rw [List.take_succ, hx, List.foldl_append]; rfl
    rw [e]
    obtain ⟨fz, _⟩ := fst0_all hr j (by omega)
    have hp := hr.each _ (List.getElem_mem (show j < row.length by omega))
    intro x hx'
    unfold fstep at hx'
    rcases List.mem_append.mp hx' with z | z
    · exact ih x z
    · unfold rise at z
      exact rk_sz (xs := []) (n := 46 * j) (m := j) (L := row[j].1) (by omega) (by omega) (by unfold bigX; omega) _ ((fst0 (row.take j)).1, []) (.inl fz.z) (fun y hy => absurd hy List.not_mem_nil) x z
theorem flow_sz {row : List Pie} (hr : RowF row) : ∀ x ∈ flowS row, Sz x.1 ∧ Sz x.2.1 := fun x hx => by
  obtain ⟨fz, _⟩ := fst0_all hr row.length (Nat.le_refl _)
  have h1 := fst_sz hr row.length (Nat.le_refl _)
  rw [List.take_length] at h1 fz
  have h60 := hr.len
  unfold flowS at hx
  rcases List.mem_append.mp hx with z | z
  · exact h1 x z
  · unfold drain at z
    have hp0 : potD row.length (fst0 row).1 ≤ (bigX : Rat) := by
      unfold potD
      have h1 : (((row.length : Nat) * 1000000 : Int) : Rat) ≤ ((63000000 : Int) : Rat) := rle (by omega)
      have h2 := fz.z.he.1
      have h3 := Rat.mul_le_mul_of_nonneg_right (show (((row.length : Nat) * 1000000 : Int) : Rat) - (fst0 row).1.he ≤ ((63000000 : Int) : Rat) by grind) (show (0 : Rat) ≤ ((63000000 : Int) : Rat) from rle (a := 0) (by decide))
      have h4 : ((63000000 : Int) : Rat) * ((63000000 : Int) : Rat) + ((2000000000000 : Int) : Rat) ≤ (bigX : Rat) := by
        rw [← Rat.intCast_mul, ← Rat.intCast_add]; exact rle (by unfold bigX; decide)
      have h5 := fz.mo
      grind
    exact dk_sz (xs := []) (n := 46 * row.length) (m := row.length) (by omega) (by omega) _ ((fst0 row).1, []) fz.z hp0 (fun y hy => absurd hy List.not_mem_nil) x z
theorem endS_sz {row : List Pie} (hr : RowF row) (i : Nat) (h : seg i (flowS row) ≠ []) : Sz (endS (seg i (flowS row))) := by
  unfold endS
  cases e : (seg i (flowS row)).getLast? with
  | none => simp at e; exact absurd e h
  | some x =>
    have hx := List.mem_of_getLast? e
    exact (flow_sz hr x (List.mem_filter.mp hx).1).2
theorem span_sz {row : List Pie} (hr : RowF row) (fl : Flo row (flowS row)) : ∀ x ∈ spanS row, Sz x.1 ∧ Sz x.2 := fun x hx => by
  unfold spanS at hx
  obtain ⟨k, hk, ek⟩ := List.mem_map.mp hx
  have hk : k < row.length := List.mem_range.mp hk
  obtain ⟨g1, g2⟩ := spS_get (i := k) (flowS row)
  obtain ⟨c1, c2⟩ := fl.ch k hk
  rw [← ek, g1, g2]
  dsimp only
  cases e : seg k (flowS row) with
  | nil => exact absurd e c2
  | cons y r =>
    have hy : y ∈ flowS row := (List.mem_filter.mp (show y ∈ seg k (flowS row) by rw [e]; exact List.mem_cons_self)).1
    refine ⟨(flow_sz hr y hy).1, ?_⟩
    cases e2 : (y :: r).getLast? with
    | none => simp at e2
    | some w =>
      have hw := List.mem_of_getLast? e2
      exact (flow_sz hr w (List.mem_filter.mp (show w ∈ seg k (flowS row) by rw [e]; exact hw)).1).2
/-- one of the two -/
def pk (x : Rat × Rat) (y : Nat) : Rat := if y = 0 then x.1 else x.2
theorem atI_pk {K : PySem.W.Frag} {x : Rat × Rat} {y : Nat} (h : y < 2) : atI [Fq K x.1, Fq K x.2] (y : Int) = some (Fq K (pk x y)) := by
  match y, h with
  | 0, _ => rfl
  | 1, _ => rfl
theorem pk_sz {x : Rat × Rat} {y : Nat} (h : Sz x.1 ∧ Sz x.2) : Sz (pk x y) := by unfold pk; split; exact h.1; exact h.2
end

section
variable {Iv : List Pie → List Tg → Td → List Str3 → Prop} {ps : List Pie} {tg : List Tg} {t : Td} {acc : List Str3}
/-- what holds through a run -/
structure Ind (Iv : List Pie → List Tg → Td → List Str3 → Prop) : Prop where
  up : ∀ {ps : List Pie} {tg : List Tg} {t : Td} {acc : List Str3} {h' m' : Rat}, Rn ps tg t acc → Iv ps tg t acc → hds t ≠ [] → t.he < h' → h' ≤ nearH (hds t) → t.mo < m' → m' - t.mo = (h' - t.he) * (whS (hds t) : Rat) → Iv ps tg { t with he := h', mo := m' } (acc ++ [(t.mo, m', (hds t).map fun e => (e.2.2.2, Rat.divInt e.2.2.1 (whS (hds t))))])
  idle : ∀ {ps : List Pie} {tg : List Tg} {t : Td} {acc : List Str3} {L : Rat}, Rn ps tg t acc → Iv ps tg t acc → hds t = [] → t.mo ≤ L → Iv ps tg { t with mo := L } acc
  add : ∀ {ps : List Pie} {tg : List Tg} {t : Td} {acc : List Str3} {p : Pie}, Rn ps tg t acc → Iv ps tg t acc → 1 ≤ p.2.2.1 → 1 ≤ p.2.2.2 → t.mo = (p.1 : Rat) → Rn (ps ++ [p]) (tg ++ [(begT t p.2.1, begT t p.2.1 + Rat.divInt p.2.2.1 p.2.2.2, p.2.2.2)]) (addT t p.2.1 p.2.2.1 p.2.2.2) acc → Iv (ps ++ [p]) (tg ++ [(begT t p.2.1, begT t p.2.1 + Rat.divInt p.2.2.1 p.2.2.2, p.2.2.2)]) (addT t p.2.1 p.2.2.1 p.2.2.2) acc
theorem Ind.go (I : Ind Iv) (h : Rn ps tg t acc) (v : Iv ps tg t acc) {L : Rat} (hL : t.mo < L) : Iv ps tg (goT t (some L)) (acc ++ (goR t (some L)).toList) := by
  rcases goT_cases (t := t) (L := L) with ⟨hn, e⟩ | ⟨hn, hc, e⟩ | ⟨hn, hc, e⟩
  · have er : goR t (some L) = none := by unfold goR; rw [if_pos hn]
    rw [er, e]
    show Iv ps tg _ (acc ++ [])
    rw [List.append_nil]
    exact I.idle h v hn (by grind)
  · have er : goR t (some L) = some (t.mo, (goT t (some L)).mo, (hds t).map fun e => (e.2.2.2, Rat.divInt e.2.2.1 (whS (hds t)))) := by unfold goR; rw [if_neg hn]
    obtain ⟨e1, e2, e3⟩ := cut_bd h.tr.sh hn hL hc
    rw [er, e]
    exact I.up h v hn (by grind) (by grind) hL (by rw [← e1]; grind)
  · have er : goR t (some L) = some (t.mo, (goT t (some L)).mo, (hds t).map fun e => (e.2.2.2, Rat.divInt e.2.2.1 (whS (hds t)))) := by unfold goR; rw [if_neg hn]
    obtain ⟨w0, lt, _, _⟩ := hd_pos h.tr.sh hn
    have hmo := (h.tr.go hL).mo.2
    rw [e] at hmo
    rw [er, e]
    exact I.up h v hn lt Rat.le_refl hmo (by unfold reach; grind)
theorem ind_rk (I : Ind Iv) {L : Rat} : ∀ (k : Nat) (t : Td) (acc : List Str3), Rn ps tg t acc → Iv ps tg t acc → Iv ps tg (rk L k (t, acc)).1 (rk L k (t, acc)).2
  | 0, t, acc, h, v => v
  | k + 1, t, acc, h, v => by
    by_cases hlt : t.mo < L
    · rw [rk_step (s := (t, acc)) hlt]
      exact ind_rk I k _ _ (h.go hlt) (I.go h v hlt)
    · rw [rk_stop (s := (t, acc)) hlt]; exact v
theorem Ind.rise (I : Ind Iv) (h : Rn ps tg t acc) (v : Iv ps tg t acc) (L : Rat) : Iv ps tg (Y.rise t L).1 (acc ++ (Y.rise t L).2) := by
  have h1 := ind_rk I (L := L) (t.fl.length + 1) t acc h v
  have e := rk_acc (L := L) (t.fl.length + 1) t acc []
  rw [List.append_nil] at e
  rw [e] at h1
  unfold Y.rise
  exact h1
theorem Ind.goN (I : Ind Iv) (h : Rn ps tg t acc) (v : Iv ps tg t acc) (hn : hds t ≠ []) : Iv ps tg (goT t none) (acc ++ (goR t none).toList) := by
  obtain ⟨e, er⟩ := goT_none hn
  obtain ⟨w0, lt, _, _⟩ := hd_pos h.tr.sh hn
  have wq : (0 : Rat) < (whS (hds t) : Rat) := by exact_mod_cast w0
  have hmo : t.mo < reach t := by
    have := Rat.mul_pos (a := nearH (hds t) - t.he) (b := (whS (hds t) : Rat)) (by grind) wq
    unfold reach; grind
  rw [er, e]
  exact I.up h v hn lt Rat.le_refl hmo (by unfold reach; grind)
theorem ind_dk (I : Ind Iv) : ∀ (k : Nat) (t : Td) (acc : List Str3), Rn ps tg t acc → Iv ps tg t acc → Iv ps tg (dk2 k (t, acc)).1 (dk2 k (t, acc)).2
  | 0, t, acc, h, v => v
  | k + 1, t, acc, h, v => by
    by_cases hn : hds t = []
    · rw [dk2_stop (s := (t, acc)) hn]; exact v
    · rw [dk2_step (s := (t, acc)) hn]
      exact ind_dk I k _ _ (h.goN hn) (I.goN h v hn)
theorem Ind.drain (I : Ind Iv) (h : Rn ps tg t acc) (v : Iv ps tg t acc) : Iv ps tg (Y.drain t).1 (acc ++ (Y.drain t).2) := by
  have h1 := ind_dk I (t.fl.length + 1) t acc h v
  have e := dk_acc (t.fl.length + 1) t acc []
  rw [List.append_nil] at e
  rw [e] at h1
  unfold Y.drain
  exact h1
end
section
/-- the tag of the piece at i -/
def tagAt (row : List Pie) (i : Nat) : Tg := (tag1 (fst0 (row.take i)).1 (atP row i) (whoP row i), tag2 (fst0 (row.take i)).1 (atP row i) (whoP row i) (row.getD i (0, 0, 0, 0)).2.2.1 (row.getD i (0, 0, 0, 0)).2.2.2, (row.getD i (0, 0, 0, 0)).2.2.2)
def tgS (row : List Pie) (j : Nat) : List Tg := (List.range j).map (tagAt row)
theorem tgS_get {row : List Pie} {i j : Nat} (h : i < j) : (tgS row j)[i]? = some (tagAt row i) := by
  unfold tgS
  rw [List.getElem?_map, List.getElem?_range h]; rfl
theorem tgS_succ {row : List Pie} {j : Nat} : tgS row (j + 1) = tgS row j ++ [tagAt row j] := by
  unfold tgS
  rw [List.range_succ, List.map_append]; rfl
theorem tagAt_is {row : List Pie} {i : Nat} {p : Pie} (h : row[i]? = some p) : tagAt row i = (begT (Y.rise (fst0 (row.take i)).1 (p.1 : Rat)).1 p.2.1, begT (Y.rise (fst0 (row.take i)).1 (p.1 : Rat)).1 p.2.1 + Rat.divInt p.2.2.1 p.2.2.2, p.2.2.2) := by
  have e : row.getD i (0, 0, 0, 0) = p := by rw [List.getD_eq_getElem?_getD, h]; rfl
  unfold tagAt atP whoP
  rw [e]
  unfold tag2 tag1
  rfl
/-- the state ahead of the coming at j: risen to its time -/
abbrev stA (row : List Pie) (j : Nat) : Td := (Y.rise (fst0 (row.take j)).1 (atP row j : Rat)).1
abbrev acA (row : List Pie) (j : Nat) : List Str3 := (fst0 (row.take j)).2 ++ (Y.rise (fst0 (row.take j)).1 (atP row j : Rat)).2
/-- the run, with its tags -/
structure Pre (row : List Pie) (j : Nat) : Prop where
  rn : Rn (row.take j) (tgS row j) (fst0 (row.take j)).1 (fst0 (row.take j)).2
  nx : ∀ p ∈ row.drop j, (fst0 (row.take j)).1.mo ≤ (p.1 : Rat)
structure StI (row : List Pie) (j : Nat) : Prop where
  rn : Rn (row.take j) (tgS row j) (stA row j) (acA row j)
  mo : (stA row j).mo = (atP row j : Rat)
theorem Pre.sta {row : List Pie} (hr : RowF row) {j : Nat} (hj : j < row.length) (h : Pre row j) : StI row j := by
  have hx : row[j]? = some row[j] := List.getElem?_eq_getElem hj
  have ea : atP row j = row[j].1 := by unfold atP; rw [List.getD_eq_getElem?_getD, hx]; rfl
  have hle := h.nx row[j] (by rw [List.mem_iff_getElem?]; exact ⟨0, by rw [List.getElem?_drop]; exact hx⟩)
  obtain ⟨fz, _⟩ := fst0_all hr j (by omega)
  have h60 := hr.len
  have hp := hr.each _ (List.getElem_mem hj)
  have rz := rise_z fz.z (by omega) (show row[j].1 ≤ bigX by unfold bigX; omega)
  refine ⟨h.rn.rise _, ?_⟩
  unfold stA
  rw [ea]
  exact rz.mo hle
theorem fst_succ {row : List Pie} (hr : RowF row) {j : Nat} (hj : j < row.length) : fst0 (row.take (j + 1)) = (addT (stA row j) (whoP row j) (row[j]).2.2.1 (row[j]).2.2.2, acA row j) := by
  have hx : row[j]? = some row[j] := List.getElem?_eq_getElem hj
  have e : fst0 (row.take (j + 1)) = fstep (fst0 (row.take j)) row[j] := by
    unfold fst0
    rw [List.take_succ, hx, List.foldl_append]; rfl
  have ea : atP row j = row[j].1 := by unfold atP; rw [List.getD_eq_getElem?_getD, hx]; rfl
  have ew : whoP row j = row[j].2.1 := by unfold whoP; rw [List.getD_eq_getElem?_getD, hx]; rfl
  obtain ⟨fz, _⟩ := fst0_all hr j (by omega)
  have h60 := hr.len
  have hp := hr.each _ (List.getElem_mem hj)
  have rz := rise_z fz.z (by omega) (show row[j].1 ≤ bigX by unfold bigX; omega)
  rw [e]
  unfold stA acA
  rw [ea, ew]
  unfold fstep
  rw [come_after rz.no]
theorem tag_succ {row : List Pie} {j : Nat} (hj : j < row.length) : tgS row (j + 1) = tgS row j ++ [(begT (stA row j) (row[j]).2.1, begT (stA row j) (row[j]).2.1 + Rat.divInt (row[j]).2.2.1 (row[j]).2.2.2, (row[j]).2.2.2)] := by
  have hx : row[j]? = some row[j] := List.getElem?_eq_getElem hj
  have ea : atP row j = row[j].1 := by unfold atP; rw [List.getD_eq_getElem?_getD, hx]; rfl
  rw [tgS_succ, tagAt_is hx, ← ea]
theorem StI.next {row : List Pie} (hr : RowF row) (hs : row.Pairwise fun a b => a.1 ≤ b.1) {j : Nat} (hj : j < row.length) (h : StI row j) : Pre row (j + 1) := by
  have hx : row[j]? = some row[j] := List.getElem?_eq_getElem hj
  have ea : atP row j = row[j].1 := by unfold atP; rw [List.getD_eq_getElem?_getD, hx]; rfl
  have ew : whoP row j = row[j].2.1 := by unfold whoP; rw [List.getD_eq_getElem?_getD, hx]; rfl
  have et : row.take (j + 1) = row.take j ++ [row[j]] := by rw [List.take_succ, hx]; rfl
  have hp := hr.each _ (List.getElem_mem hj)
  have hmo := h.mo
  rw [ea] at hmo
  refine ⟨?_, fun q hq => ?_⟩
  · rw [fst_succ hr hj, tag_succ hj, et, ew]
    exact h.rn.add (p := row[j]) hp.2.1.1 hp.2.2.1 hmo
  · rw [fst_succ hr hj]
    show (stA row j).mo ≤ _
    rw [hmo]
    obtain ⟨k, hk⟩ := List.mem_iff_getElem?.mp hq
    rw [List.getElem?_drop] at hk
    have := List.pairwise_iff_getElem.mp hs j (j + 1 + k) (by omega) (List.getElem?_eq_some_iff.mp hk).1 (by omega)
    rw [(List.getElem?_eq_some_iff.mp hk).2] at this
    exact rle this
theorem pre_all {row : List Pie} (hr : RowF row) (hs : row.Pairwise fun a b => a.1 ≤ b.1) : ∀ j ≤ row.length, Pre row j
  | 0, _ => ⟨by rw [List.take_zero]; exact rn0, fun p hp => by
      rw [List.take_zero]
      show (0 : Rat) ≤ (p.1 : Rat)
      exact rle (a := 0) (hr.each p (List.mem_of_mem_drop hp)).1.1⟩
  | j + 1, hj => ((pre_all hr hs j (by omega)).sta hr (by omega)).next hr hs (by omega)
theorem sta_all {row : List Pie} (hr : RowF row) (hs : row.Pairwise fun a b => a.1 ≤ b.1) {j : Nat} (hj : j < row.length) : StI row j := (pre_all hr hs j (by omega)).sta hr hj
/-- from the coming at j on -/
theorem Ind.next {Iv : List Pie → List Tg → Td → List Str3 → Prop} (I : Ind Iv) {row : List Pie} (hr : RowF row) (hs : row.Pairwise fun a b => a.1 ≤ b.1) {j : Nat} (hj : j < row.length) (v : Iv (row.take j) (tgS row j) (stA row j) (acA row j)) : Iv (row.take (j + 1)) (tgS row (j + 1)) (fst0 (row.take (j + 1))).1 (fst0 (row.take (j + 1))).2 := by
  have hx : row[j]? = some row[j] := List.getElem?_eq_getElem hj
  have ew : whoP row j = row[j].2.1 := by unfold whoP; rw [List.getD_eq_getElem?_getD, hx]; rfl
  have ea : atP row j = row[j].1 := by unfold atP; rw [List.getD_eq_getElem?_getD, hx]; rfl
  have et : row.take (j + 1) = row.take j ++ [row[j]] := by rw [List.take_succ, hx]; rfl
  have hp := hr.each _ (List.getElem_mem hj)
  have sa := sta_all hr hs hj
  have hmo := sa.mo
  rw [ea] at hmo
  have h2 := (pre_all hr hs (j + 1) (by omega)).rn
  rw [fst_succ hr hj, tag_succ hj, et, ew] at h2 ⊢
  exact I.add (p := row[j]) sa.rn v hp.2.1.1 hp.2.2.1 hmo h2
theorem Ind.run {Iv : List Pie → List Tg → Td → List Str3 → Prop} (I : Ind Iv) {row : List Pie} (hr : RowF row) (hs : row.Pairwise fun a b => a.1 ≤ b.1) {j : Nat} (v : Iv (row.take j) (tgS row j) (fst0 (row.take j)).1 (fst0 (row.take j)).2) : ∀ d : Nat, j + d ≤ row.length → Iv (row.take (j + d)) (tgS row (j + d)) (fst0 (row.take (j + d))).1 (fst0 (row.take (j + d))).2
  | 0, _ => v
  | d + 1, hd => I.next hr hs (j := j + d) (by omega) (I.rise (pre_all hr hs (j + d) (by omega)).rn (I.run hr hs v d (by omega)) _)
structure Fin (row : List Pie) : Prop where
  rn : Rn row (tgS row row.length) (Y.drain (fst0 row).1).1 (flowS row)
  dead : ∀ i < row.length, (tagAt row i).2.1 ≤ (Y.drain (fst0 row).1).1.he
theorem fin_all {row : List Pie} (hr : RowF row) (hs : row.Pairwise fun a b => a.1 ≤ b.1) : Fin row := by
  have h1 := (pre_all hr hs row.length (Nat.le_refl _)).rn
  rw [List.take_length] at h1
  have hd := h1.drain
  have hen := drain_end h1.tr.sh
  have ef : flowS row = (fst0 row).2 ++ (Y.drain (fst0 row).1).2 := by unfold flowS; rfl
  rw [← ef] at hd
  refine ⟨hd, fun i hi => Rat.not_lt.mp fun ha => ?_⟩
  obtain ⟨e, he, e1, e2⟩ := hd.lf i _ (tgS_get hi) ha
  exact hd.tr.dead hen e he (by rw [← e2] at ha; exact ha)
/-- to the end -/
theorem Ind.fin {Iv : List Pie → List Tg → Td → List Str3 → Prop} (I : Ind Iv) {row : List Pie} (hr : RowF row) (hs : row.Pairwise fun a b => a.1 ≤ b.1) {j : Nat} (hj : j ≤ row.length) (v : Iv (row.take j) (tgS row j) (fst0 (row.take j)).1 (fst0 (row.take j)).2) : Iv row (tgS row row.length) (Y.drain (fst0 row).1).1 (flowS row) := by
  have h1 := I.run hr hs v (row.length - j) (by omega)
  rw [show j + (row.length - j) = row.length by omega, List.take_length] at h1
  have h2 := (pre_all hr hs row.length (Nat.le_refl _)).rn
  rw [List.take_length] at h2
  have ef : flowS row = (fst0 row).2 ++ (Y.drain (fst0 row).1).2 := by unfold flowS; rfl
  rw [ef]
  exact I.drain h2 h1
end

section
variable {ps : List Pie} {tg : List Tg} {t : Td} {acc : List Str3}
theorem Rn.upN (h : Rn ps tg t acc) {h' m' : Rat} {i : Nat} {g : Tg} (hg : tg[i]? = some g) (ho : g.2.1 ≤ t.he) : seg i (acc ++ [(t.mo, m', (hds t).map fun e => (e.2.2.2, Rat.divInt e.2.2.1 (whS (hds t))))]) = seg i acc := by
  rw [seg_app, if_neg (fun z => absurd ((inP_step h hg).mp z).2 (Rat.not_lt.mpr ho))]
theorem Rn.upY (h : Rn ps tg t acc) {h' m' : Rat} (hle : h' ≤ nearH (hds t)) {i : Nat} {g : Tg} (hg : tg[i]? = some g) (ho : ¬ g.2.1 ≤ t.he) (hb : g.1 < h') : seg i (acc ++ [(t.mo, m', (hds t).map fun e => (e.2.2.2, Rat.divInt e.2.2.1 (whS (hds t))))]) = seg i acc ++ [(t.mo, m', (hds t).map fun e => (e.2.2.2, Rat.divInt e.2.2.1 (whS (hds t))))] := by
  have ha : t.he < g.2.1 := Rat.not_le.mp ho
  have hw : ¬ t.he < g.1 := fun hw => by
    obtain ⟨e, he, e1, e2⟩ := h.lf i g hg ha
    have := (h.tr.near he (by rw [← e2] at hw; exact hw)).2
    rw [← e2] at hb
    exact absurd (Rat.le_trans hle this) (Rat.not_le.mpr hb)
  rw [seg_app, if_pos ((inP_step h hg).mpr ⟨hw, ha⟩)]
theorem Rn.endle (h : Rn ps tg t acc) {i : Nat} {g : Tg} (hg : tg[i]? = some g) (ho : g.2.1 ≤ t.he) : endS (seg i acc) ≤ t.mo := by
  have hp := h.po g (List.mem_of_getElem? hg)
  obtain ⟨l, c1, c2, c3, c4⟩ := h.ch i g hg (by grind)
  rw [c1.last c2]; exact c3
theorem endS_app {S : List Str3} {x : Str3} : endS (S ++ [x]) = x.2.1 := by
  unfold endS
  rw [List.getLast?_append]; rfl
def IvR (T0 M0 : Rat) (_ps : List Pie) (tg : List Tg) (t : Td) (acc : List Str3) : Prop := T0 ≤ t.mo ∧ M0 ≤ t.he ∧ ∀ (i : Nat) (g : Tg), tg[i]? = some g → g.2.1 ≤ t.he → (M0 < g.2.1 ↔ T0 < endS (seg i acc))
def IvP (_ps : List Pie) (tg : List Tg) (t : Td) (acc : List Str3) : Prop := ∀ (i k : Nat) (g f : Tg), tg[i]? = some g → tg[k]? = some f → g.2.1 ≤ t.he → f.2.1 ≤ t.he → (g.2.1 < f.2.1 ↔ endS (seg i acc) < endS (seg k acc))
/-- who is new has not ended -/
theorem new_end (h : Rn (ps ++ [p]) (tg ++ [g0]) t acc) (ht : t.he ≤ g0.1) {i : Nat} {g : Tg} (hg : (tg ++ [g0])[i]? = some g) (ho : g.2.1 ≤ t.he) : tg[i]? = some g := by
  by_cases hi : i < tg.length
  · rw [List.getElem?_append_left hi] at hg; exact hg
  · exfalso
    have hp := h.po g (List.mem_of_getElem? hg)
    have hlt := (List.getElem?_eq_some_iff.mp hg).1
    rw [List.length_append, List.length_singleton] at hlt
    have e : i = tg.length := by omega
    subst e
    rw [List.getElem?_append_right (Nat.le_refl _), Nat.sub_self] at hg
    have : g0 = g := Option.some.inj hg
    rw [this] at ht
    grind
theorem begT_ge {t : Td} {w : Int} : t.he ≤ begT t w := by unfold begT gtr2; split <;> grind
theorem ind_R {T0 M0 : Rat} : Ind (IvR T0 M0) where
  up := fun {ps tg t acc h' m'} h v hn hlt hle hm hw => by
    obtain ⟨v1, v2, v3⟩ := v
    refine ⟨by dsimp only; grind, by dsimp only; grind, fun i g hg ho => ?_⟩
    dsimp only at ho
    by_cases hold : g.2.1 ≤ t.he
    · rw [h.upN (h' := h') hg hold]; exact v3 i g hg hold
    · have hp := h.po g (List.mem_of_getElem? hg)
      rw [h.upY hle hg hold (by grind), endS_app]
      dsimp only
      have := Rat.not_le.mp hold
      constructor <;> intro _ <;> grind
  idle := fun {ps tg t acc L} h v hn hL => ⟨by have := v.1; dsimp only; grind, v.2.1, v.2.2⟩
  add := fun {ps tg t acc p} h v hl hs hmo h2 => ⟨v.1, v.2.1, fun i g hg ho => v.2.2 i g (new_end h2 begT_ge hg ho) ho⟩
theorem ind_P : Ind IvP where
  up := fun {ps tg t acc h' m'} h v hn hlt hle hm hw i k g f hg hf hgo hfo => by
    dsimp only at hgo hfo
    have pg := h.po g (List.mem_of_getElem? hg)
    have pf := h.po f (List.mem_of_getElem? hf)
    by_cases go : g.2.1 ≤ t.he
    · by_cases fo : f.2.1 ≤ t.he
      · rw [h.upN (h' := h') hg go, h.upN (h' := h') hf fo]; exact v i k g f hg hf go fo
      · rw [h.upN (h' := h') hg go, h.upY hle hf fo (by grind), endS_app]
        have := h.endle hg go
        have := Rat.not_le.mp fo
        dsimp only
        constructor <;> intro _ <;> grind
    · have g1 := Rat.not_le.mp go
      have ge : h' ≤ g.2.1 := by
        by_cases hw : t.he < g.1
        · obtain ⟨e, he, e1, e2⟩ := h.lf i g hg g1
          have := (h.tr.near he (by rw [← e2] at hw; exact hw)).2
          rw [← e2] at pg ⊢
          have : h' ≤ (tri e).1 := Rat.le_trans hle this
          grind
        · obtain ⟨e, he, e1, e2⟩ := h.lf i g hg g1
          have hm2 : e ∈ hds t := mem_hds.mpr ⟨he, by rw [← e2] at hw; exact hw, by rw [← e2] at g1; exact g1⟩
          have := (hd_pos h.tr.sh hn).2.2.2 e hm2
          rw [← e2]
          exact Rat.le_trans hle this
      rw [h.upY hle hg go (by grind), endS_app]
      by_cases fo : f.2.1 ≤ t.he
      · rw [h.upN (h' := h') hf fo]
        have := h.endle hf fo
        dsimp only
        constructor <;> intro _ <;> grind
      · rw [h.upY hle hf fo (by grind), endS_app]
        dsimp only
        constructor
        · intro z; grind
        · intro z; exact absurd z Rat.lt_irrefl
  idle := fun {ps tg t acc L} h v hn hL => v
  add := fun {ps tg t acc p} h v hl hs hmo h2 i k g f hg hf hgo hfo => v i k g f (new_end h2 begT_ge hg hgo) (new_end h2 begT_ge hf hfo) hgo hfo
end
section
variable {row : List Pie}
theorem who_take {i j : Nat} (h : i < j) : whoP (row.take j) i = whoP row i := by
  unfold whoP
  rw [List.getD_eq_getElem?_getD, List.getD_eq_getElem?_getD, List.getElem?_take_of_lt h]
theorem lp_take {w : Int} {j : Nat} : ∀ i ≤ j, lp (row.take j) w i = lp row w i
  | 0, _ => rfl
  | i + 1, h => by
    show (if whoP (row.take j) i = w then some i else lp (row.take j) w i) = if whoP row i = w then some i else lp row w i
    rw [who_take (by omega), lp_take i (by omega)]
theorem prev_take {i j : Nat} (h : i < j) : prevP (row.take j) i = prevP row i := by
  unfold prevP
  rw [who_take h, lp_take i (by omega)]
theorem at_le (hs : row.Pairwise fun a b => a.1 ≤ b.1) {i j : Nat} (hij : i ≤ j) (hj : j < row.length) : atP row i ≤ atP row j := by
  unfold atP
  rw [List.getD_eq_getElem?_getD, List.getD_eq_getElem?_getD, List.getElem?_eq_getElem hj, List.getElem?_eq_getElem (show i < row.length by omega)]
  show row[i].1 ≤ row[j].1
  rcases Nat.lt_or_ge i j with h | h
  · exact List.pairwise_iff_getElem.mp hs i j (by omega) hj h
  · have : i = j := by omega
    subst this; exact Int.le_refl _
theorem endG_tgS {i j : Nat} (h : i < j) : endG (tgS row j) i = (tagAt row i).2.1 := by
  unfold endG
  rw [List.getD_eq_getElem?_getD, tgS_get h]; rfl
/-- marks at comings against end tags -/
theorem ord_end (hr : RowF row) (hs : row.Pairwise fun a b => a.1 ≤ b.1) {i j : Nat} (hij : i < j) (hj : j < row.length) : (stA row j).he < (tagAt row i).2.1 ↔ (atP row j : Rat) < endS (seg i (flowS row)) := by
  have sa := sta_all hr hs hj
  have f := fin_all hr hs
  have v0 : IvR (stA row j).mo (stA row j).he (row.take j) (tgS row j) (stA row j) (acA row j) := ⟨Rat.le_refl, Rat.le_refl, fun k g hg ho => by
    have := sa.rn.endle hg ho
    constructor <;> intro _ <;> grind⟩
  have v1 := ind_R.next hr hs hj v0
  have v2 := ind_R.fin hr hs (j := j + 1) (by omega) v1
  have := v2.2.2 i _ (tgS_get (show i < row.length by omega)) (f.dead i (by omega))
  rw [sa.mo] at this
  exact this
/-- and against begin tags -/
theorem ord_beg (hr : RowF row) (hs : row.Pairwise fun a b => a.1 ≤ b.1) {i j : Nat} (hij : i < j) (hj : j < row.length) : (stA row j).he < (tagAt row i).1 ↔ (atP row j : Rat) < btP row (flowS row) i := by
  have sa := sta_all hr hs hj
  have ht := tgS_get (row := row) hij
  have hat : (atP row i : Rat) ≤ (atP row j : Rat) := rle (at_le hs (by omega) hj)
  have ep := prev_take (row := row) hij
  unfold btP
  cases e : prevP row i with
  | none =>
    show _ ↔ (atP row j : Rat) < (atP row i : Rat)
    constructor
    · intro hw
      obtain ⟨_, k, k1, _⟩ := sa.rn.wt i _ ht hw
      rw [ep, e] at k1; cases k1
    · intro z; grind
  | some k =>
    show _ ↔ (atP row j : Rat) < gtr2 (atP row i : Rat) (endS (seg k (flowS row)))
    have hki := (lp_lt e).1
    have ok := ord_end hr hs (i := k) (by omega) hj
    have hpv := sa.rn.pv i k _ ht (by rw [ep, e])
    rw [endG_tgS (by omega)] at hpv
    have hg : (atP row j : Rat) < gtr2 (atP row i : Rat) (endS (seg k (flowS row))) ↔ (atP row j : Rat) < endS (seg k (flowS row)) := by
      unfold gtr2
      split
      · exact Iff.rfl
      · constructor <;> intro z <;> grind
    rw [hg, ← ok]
    constructor
    · intro hw
      obtain ⟨_, k', k1, k2⟩ := sa.rn.wt i _ ht hw
      rw [ep, e] at k1
      have : k = k' := Option.some.inj k1
      subst this
      rw [endG_tgS (by omega)] at k2
      rw [k2]; exact hw
    · intro z; grind
theorem ord_pair (hr : RowF row) (hs : row.Pairwise fun a b => a.1 ≤ b.1) {i k : Nat} (hi : i < row.length) (hk : k < row.length) : (tagAt row i).2.1 < (tagAt row k).2.1 ↔ endS (seg i (flowS row)) < endS (seg k (flowS row)) := by
  have f := fin_all hr hs
  have v0 : IvP (row.take 0) (tgS row 0) (fst0 (row.take 0)).1 (fst0 (row.take 0)).2 := fun i k g f hg => by
    exact absurd (List.mem_of_getElem? hg) List.not_mem_nil
  have v2 := ind_P.fin hr hs (j := 0) (by omega) v0
  exact v2 i k _ _ (tgS_get hi) (tgS_get hk) (f.dead i hi) (f.dead k hk)
/-- the two tags of each place -/
def tw2 (row : List Pie) (j : Nat) : List (Rat × Rat) := (List.range j).map fun i => ((tagAt row i).1, (tagAt row i).2.1)
theorem tw2_get {i j : Nat} (h : i < j) : (tw2 row j)[i]? = some ((tagAt row i).1, (tagAt row i).2.1) := by
  unfold tw2
  rw [List.getElem?_map, List.getElem?_range h]; rfl
theorem tw2_succ {j : Nat} : tw2 row (j + 1) = tw2 row j ++ [((tagAt row j).1, (tagAt row j).2.1)] := by
  unfold tw2
  rw [List.range_succ, List.map_append]; rfl
end

section
variable {ps : List Pie} {tg : List Tg} {t : Td} {acc : List Str3}
/-- the rate of a place among parts -/
def rt (i : Nat) (l : List (Int × Rat)) : Rat := (l.map fun p => if p.1 = (i : Int) then p.2 else 0).sum
theorem rt_no {i : Nat} : ∀ {l : List (Int × Rat)}, (∀ p ∈ l, p.1 ≠ (i : Int)) → rt i l = 0
  | [], _ => rfl
  | p :: l, h => by
    have ih := rt_no (i := i) (l := l) fun q hq => h q (List.mem_cons_of_mem _ hq)
    unfold rt at ih ⊢
    rw [List.map_cons, List.sum_cons, if_neg (h p List.mem_cons_self), ih]; exact Rat.zero_add _
theorem rt_one {i : Nat} {p : Int × Rat} : ∀ {l : List (Int × Rat)}, l.Pairwise (fun a b => a.1 < b.1) → p ∈ l → p.1 = (i : Int) → rt i l = p.2
  | q :: l, hw, hp, hi => by
    obtain ⟨h1, h2⟩ := List.pairwise_cons.mp hw
    rcases List.mem_cons.mp hp with z | z
    · subst z
      have := rt_no (i := i) (l := l) fun q hq w => by have := h1 q hq; omega
      unfold rt at this ⊢
      rw [List.map_cons, List.sum_cons, if_pos hi, this]; exact Rat.add_zero _
    · have ih := rt_one h2 z hi
      have hne : q.1 ≠ (i : Int) := fun w => by have := h1 p z; omega
      unfold rt at ih ⊢
      rw [List.map_cons, List.sum_cons, if_neg hne, ih]; exact Rat.zero_add _
/-- who a place of parts is of -/
abbrev whoI (ps : List Pie) (z : Int) : Int := whoP ps z.toNat
structure FX (ps : List Pie) (x : Str3) : Prop where
  lt : x.1 < x.2.1
  pw : x.2.2.Pairwise (fun a b => a.1 < b.1)
  pl : ∀ p ∈ x.2.2, ∃ k : Nat, p.1 = (k : Int) ∧ k < ps.length ∧ 0 < p.2
  on : (x.2.2.map (·.2)).sum = 1
  wd : ∀ p ∈ x.2.2, ∀ q ∈ x.2.2, whoI ps p.1 = whoI ps q.1 → p = q
def amt (g : Tg) (h : Rat) : Rat := if h ≤ g.1 then 0 else if h < g.2.1 then (g.2.2 : Rat) * (h - g.1) else (g.2.2 : Rat) * (g.2.1 - g.1)
structure Qn (ps : List Pie) (tg : List Tg) (t : Td) (acc : List Str3) : Prop where
  nw : t.fl.Pairwise (fun a b => a.2.2.2 < b.2.2.2)
  fx : ∀ x ∈ acc, FX ps x
  od : acc.Pairwise (fun x y => x.2.1 ≤ y.1)
  le : ∀ x ∈ acc, x.2.1 ≤ t.mo
  am : ∀ (i : Nat) (g : Tg), tg[i]? = some g → (acc.map fun x => rt i x.2.2 * (x.2.1 - x.1)).sum = amt g t.he
theorem lp_ge {w : Int} {i : Nat} : ∀ {k : Nat}, i < k → whoP ps i = w → ∃ m, lp ps w k = some m ∧ i ≤ m
  | 0, h, _ => absurd h (Nat.not_lt_zero _)
  | k + 1, h, hw => by
    by_cases e : whoP ps k = w
    · exact ⟨k, by show (if whoP ps k = w then some k else lp ps w k) = some k; rw [if_pos e], by omega⟩
    · have hik : i < k := by
        rcases Nat.lt_or_eq_of_le (Nat.le_of_lt_succ h) with z | z
        · exact z
        · rw [z] at hw; exact absurd hw e
      obtain ⟨m, h1, h2⟩ := lp_ge (k := k) hik hw
      exact ⟨m, by show (if whoP ps k = w then some k else lp ps w k) = some m; rw [if_neg e]; exact h1, h2⟩
theorem same_end (h : Rn ps tg t acc) : ∀ (k i : Nat) (g f : Tg), i < k → whoP ps i = whoP ps k → tg[i]? = some g → tg[k]? = some f → g.2.1 ≤ f.1 := fun k => by
  induction k using Nat.strongRecOn with
  | _ k ih =>
    intro i g f hik hw hg hf
    obtain ⟨m, h1, h2⟩ := lp_ge (ps := ps) (k := k) hik hw
    have hm := (lp_lt h1)
    have hpv := h.pv k m f hf h1
    have hkl := (List.getElem?_eq_some_iff.mp hf).1
    have hml : tg[m]? = some (tg[m]'(by omega)) := List.getElem?_eq_getElem (by omega)
    have em : endG tg m = (tg[m]'(by omega)).2.1 := by unfold endG; rw [List.getD_eq_getElem?_getD, hml]; rfl
    rw [em] at hpv
    by_cases e : i = m
    · subst e
      rw [hg] at hml
      rw [← Option.some.inj hml] at hpv
      exact hpv
    · have := ih m hm.1 i g _ (by omega) (by rw [hm.2, hw]) hg hml
      have hp := h.po _ (List.mem_of_getElem? hml)
      grind
/-- a head, by its place -/
theorem head_at (h : Rn ps tg t acc) {e : Fe} (he : e ∈ hds t) : ∃ i : Nat, e.2.2.2 = (i : Int) ∧ i < ps.length ∧ tg[i]? = some (tri e) ∧ ¬ t.he < e.1 ∧ t.he < e.2.1 := by
  obtain ⟨m1, m2, m3⟩ := mem_hds.mp he
  obtain ⟨i, i1, i2⟩ := h.fl e m1
  have := (List.getElem?_eq_some_iff.mp i2).1
  exact ⟨i, i1, by rw [← h.len]; exact this, i2, m2, m3⟩
theorem sum_div {w : Int} : ∀ l : List Fe, ((l.map fun e => (e.2.2.2, Rat.divInt e.2.2.1 w)).map (·.2)).sum = Rat.divInt (whS l) w
  | [] => by
    unfold whS
    show (0 : Rat) = Rat.divInt 0 w
    rw [Rat.zero_divInt]
  | e :: l => by
    have ih := sum_div (w := w) l
    unfold whS at ih ⊢
    rw [List.map_cons, List.map_cons, List.sum_cons, ih, List.map_cons, List.sum_cons]
    rw [Rat.divInt_eq_div, Rat.divInt_eq_div, Rat.divInt_eq_div, Rat.intCast_add, Rat.div_def, Rat.div_def, Rat.div_def, Rat.add_mul]
theorem div_pos {s w : Int} (hs : 1 ≤ s) (hw : 0 < w) : 0 < Rat.divInt s w := by
  rw [Rat.divInt_eq_div]
  have h1 : (0 : Rat) < (s : Rat) := by
    have : 0 < s := by omega
    exact_mod_cast this
  have h2 : (0 : Rat) < (w : Rat) := by exact_mod_cast hw
  rw [Rat.div_def]
  exact Rat.mul_pos h1 (Rat.inv_pos.mpr h2)
theorem ind_Q : Ind Qn where
  up := fun {ps tg t acc h' m'} h v hn hlt hle hm hw => by
    obtain ⟨w0, lt, _, nle⟩ := hd_pos h.tr.sh hn
    have wq : (0 : Rat) < (whS (hds t) : Rat) := by exact_mod_cast w0
    have pwh : ((hds t).map fun e => (e.2.2.2, Rat.divInt e.2.2.1 (whS (hds t)))).Pairwise (fun a b => a.1 < b.1) := by
      rw [List.pairwise_map]
      unfold hds
      exact v.nw.filter _
    have idx : ∀ p ∈ (hds t).map fun e => (e.2.2.2, Rat.divInt e.2.2.1 (whS (hds t))), ∃ (i : Nat) (e : Fe), p = ((i : Int), Rat.divInt e.2.2.1 (whS (hds t))) ∧ e ∈ hds t ∧ e.2.2.2 = (i : Int) ∧ i < ps.length ∧ tg[i]? = some (tri e) ∧ ¬ t.he < e.1 ∧ t.he < e.2.1 := fun p hp => by
      obtain ⟨e, he, ep⟩ := List.mem_map.mp hp
      obtain ⟨i, i1, i2, i3, i4, i5⟩ := head_at h he
      exact ⟨i, e, by rw [← ep, i1], he, i1, i2, i3, i4, i5⟩
    refine ⟨v.nw, fun x hx => ?_, ?_, fun x hx => ?_, fun i g hg => ?_⟩
    · rcases List.mem_append.mp hx with z | z
      · exact v.fx x z
      · rw [List.mem_singleton.mp z]
        refine ⟨hm, pwh, fun p hp => ?_, ?_, fun p hp q hq hpq => ?_⟩
        · obtain ⟨i, e, ep, e1, e2, e3, _⟩ := idx p hp
          refine ⟨i, by rw [ep], e3, ?_⟩
          rw [ep]
          exact div_pos (h.tr.sh e (mem_hds.mp e1).1) w0
        · dsimp only
          rw [sum_div, Rat.divInt_eq_div]
          rw [Rat.div_def]
          exact Rat.mul_inv_cancel _ (by grind)
        · dsimp only at hp hq
          obtain ⟨i, e, ep, e1, e2, e3, e4, e5, e6⟩ := idx p hp
          obtain ⟨k, f, fp, f1, f2, f3, f4, f5, f6⟩ := idx q hq
          rw [ep, fp] at hpq
          have hpq : whoP ps i = whoP ps k := by
            have : whoP ps ((i : Int)).toNat = whoP ps ((k : Int)).toNat := hpq
            rwa [Int.toNat_natCast, Int.toNat_natCast] at this
          have eik : i = k := by
            rcases Nat.lt_trichotomy i k with z | z | z
            · have := same_end h k i _ _ z hpq e4 f4
              have : e.2.1 ≤ f.1 := this
              grind
            · exact z
            · have := same_end h i k _ _ z hpq.symm f4 e4
              have : f.2.1 ≤ e.1 := this
              grind
          subst eik
          have r1 := rt_one pwh hp (by rw [ep])
          have r2 := rt_one pwh hq (by rw [fp] : q.1 = (i : Int))
          rw [ep] at r1 ⊢
          rw [fp] at r2 ⊢
          rw [Prod.mk.injEq]
          exact ⟨rfl, Eq.trans (Eq.symm r1) r2⟩
    · rw [List.pairwise_append]
      refine ⟨v.od, List.pairwise_singleton _ _, fun a ha b hb => ?_⟩
      rw [List.mem_singleton.mp hb]
      exact v.le a ha
    · dsimp only
      rcases List.mem_append.mp hx with z | z
      · have := v.le x z; grind
      · rw [List.mem_singleton.mp z]; exact Rat.le_refl
    · have hp := h.po g (List.mem_of_getElem? hg)
      rw [List.map_append, List.sum_append, v.am i g hg, List.map_cons, List.map_nil, List.sum_cons, List.sum_nil]
      dsimp only
      by_cases fl : ¬ t.he < g.1 ∧ t.he < g.2.1
      · obtain ⟨e, he, e1, e2⟩ := h.lf i g hg fl.2
        have hm2 : e ∈ hds t := mem_hds.mpr ⟨he, by have := fl.1; rw [← e2] at this; exact this, by have := fl.2; rw [← e2] at this; exact this⟩
        have hne : h' ≤ g.2.1 := by
          have := nle e hm2
          rw [← e2]
          exact Rat.le_trans hle this
        have r1 := rt_one pwh (i := i) (p := (e.2.2.2, Rat.divInt e.2.2.1 (whS (hds t)))) (List.mem_map.mpr ⟨e, hm2, rfl⟩) e1
        rw [r1]
        have eg : g.2.2 = e.2.2.1 := by rw [← e2]; rfl
        have e3 : Rat.divInt e.2.2.1 (whS (hds t)) * (m' - t.mo) = (g.2.2 : Rat) * (h' - t.he) := by
          rw [hw, Rat.divInt_eq_div, eg]
          have := Rat.div_mul_cancel (a := (e.2.2.1 : Rat)) (b := (whS (hds t) : Rat)) (by grind)
          obtain ⟨z, hz⟩ : ∃ z, (e.2.2.1 : Rat) / (whS (hds t) : Rat) = z := ⟨_, rfl⟩
          rw [hz] at this ⊢
          rw [← this]; grind
        dsimp only
        rw [e3]
        unfold amt
        have f1 := fl.1
        have f2 := fl.2
        split <;> split <;> grind
      · have r0 : rt i ((hds t).map fun e => (e.2.2.2, Rat.divInt e.2.2.1 (whS (hds t)))) = 0 := rt_no fun p hp hi => by
          obtain ⟨k, e, ep, e1, e2, e3, e4, e5, e6⟩ := idx p hp
          rw [ep] at hi
          have : k = i := by
            have : (k : Int) = (i : Int) := hi
            omega
          subst this
          rw [hg] at e4
          have e4 : g = tri e := Option.some.inj e4
          exact fl (by rw [e4]; exact ⟨e5, e6⟩)
        rw [r0, Rat.zero_mul, Rat.add_zero, Rat.add_zero]
        have hwt : t.he < g.1 → h' ≤ g.1 := fun hw => by
          obtain ⟨e, he, e1, e2⟩ := h.lf i g hg (by grind)
          have := (h.tr.near he (by rw [← e2] at hw; exact hw)).2
          rw [← e2]
          exact Rat.le_trans hle this
        unfold amt
        by_cases z : t.he < g.1
        · have := hwt z
          rw [if_pos (by grind), if_pos (by grind)]
        · have : ¬ t.he < g.2.1 := fun w => fl ⟨z, w⟩
          rw [if_neg (by grind), if_neg (by grind), if_neg (by grind), if_neg (by grind)]
  idle := fun {ps tg t acc L} h v hn hL => ⟨v.nw, v.fx, v.od, fun x hx => by have := v.le x hx; dsimp only; grind, v.am⟩
  add := fun {ps tg t acc p} h v hl hs hmo h2 => by
    have wapp : ∀ k, k < ps.length → whoP (ps ++ [p]) k = whoP ps k := fun k hk => by unfold whoP; rw [getD_app hk]
    refine ⟨?_, fun x hx => ?_, v.od, v.le, fun i g hg => ?_⟩
    · unfold addT
      dsimp only
      rw [List.pairwise_append]
      refine ⟨v.nw.filter _, List.pairwise_singleton _ _, fun a ha b hb => ?_⟩
      rw [List.mem_singleton.mp hb]
      obtain ⟨i, i1, i2⟩ := h.fl a (List.mem_filter.mp ha).1
      have := (List.getElem?_eq_some_iff.mp i2).1
      have hl2 := h.len
      have hmn := h.mn
      dsimp only
      omega
    · obtain ⟨f1, f2, f3, f4, f5⟩ := v.fx x hx
      refine ⟨f1, f2, fun q hq => ?_, f4, fun q hq r hr hqr => ?_⟩
      · obtain ⟨k, k1, k2, k3⟩ := f3 q hq
        exact ⟨k, k1, by rw [List.length_append]; omega, k3⟩
      · obtain ⟨k, k1, k2, k3⟩ := f3 q hq
        obtain ⟨m, m1, m2, m3⟩ := f3 r hr
        refine f5 q hq r hr ?_
        have hqr : whoP (ps ++ [p]) q.1.toNat = whoP (ps ++ [p]) r.1.toNat := hqr
        rw [k1, m1, Int.toNat_natCast, Int.toNat_natCast, wapp k k2, wapp m m2] at hqr
        show whoP ps q.1.toNat = whoP ps r.1.toNat
        rw [k1, m1, Int.toNat_natCast, Int.toNat_natCast]; exact hqr
    · by_cases hi : i < tg.length
      · rw [List.getElem?_append_left hi] at hg
        exact v.am i g hg
      · have hlt := (List.getElem?_eq_some_iff.mp hg).1
        rw [List.length_append, List.length_singleton] at hlt
        have e : i = tg.length := by omega
        rw [e, List.getElem?_append_right (Nat.le_refl _), Nat.sub_self] at hg
        have eg : (begT t p.2.1, begT t p.2.1 + Rat.divInt p.2.2.1 p.2.2.2, p.2.2.2) = g := Option.some.inj hg
        have z : amt g t.he = 0 := by
          unfold amt
          rw [← eg, if_pos begT_ge]
        show _ = amt g t.he
        rw [z]
        have : ∀ l : List Str3, (∀ x ∈ l, FX ps x) → (l.map fun x => rt i x.2.2 * (x.2.1 - x.1)).sum = 0 := fun l => by
          induction l with
          | nil => intro _; rfl
          | cons x l ih =>
            intro hx
            rw [List.map_cons, List.sum_cons, ih fun y hy => hx y (List.mem_cons_of_mem _ hy), rt_no (fun q hq w => by
              obtain ⟨k, k1, k2, k3⟩ := (hx x List.mem_cons_self).pl q hq
              have := h.len
              omega), Rat.zero_mul]; exact Rat.add_zero _
        exact this acc v.fx
end
section
variable {row : List Pie}
/-- what the flow's stretches come to -/
structure Fs (row : List Pie) (l : List Str3) : Prop where
  fx : ∀ x ∈ l, FX row x
  od : l.Pairwise (fun x y => x.2.1 ≤ y.1)
  am : ∀ (i : Nat) (p : Pie), row[i]? = some p → (l.map fun x => rt i x.2.2 * (x.2.1 - x.1)).sum = (p.2.2.1 : Rat)
theorem flow_fs (hr : RowF row) (hs : row.Pairwise fun a b => a.1 ≤ b.1) : Fs row (flowS row) := by
  have f := fin_all hr hs
  have v0 : Qn (row.take 0) (tgS row 0) (fst0 (row.take 0)).1 (fst0 (row.take 0)).2 := ⟨List.Pairwise.nil, fun x hx => absurd hx List.not_mem_nil, List.Pairwise.nil, fun x hx => absurd hx List.not_mem_nil, fun i g hg => absurd (List.mem_of_getElem? hg) List.not_mem_nil⟩
  have v := ind_Q.fin hr hs (j := 0) (by omega) v0
  refine ⟨v.fx, v.od, fun i p hp => ?_⟩
  have hi := (List.getElem?_eq_some_iff.mp hp).1
  rw [v.am i _ (tgS_get hi)]
  have hd := f.dead i hi
  have ht := tagAt_is hp
  have hpp := hr.each p (List.mem_of_getElem? hp)
  have dp := div_pos hpp.2.1.1 (show 0 < p.2.2.2 by omega)
  unfold amt
  rw [ht] at hd ⊢
  dsimp only at hd ⊢
  rw [if_neg (by grind), if_neg (by grind)]
  have e : Rat.divInt p.2.2.1 p.2.2.2 * (p.2.2.2 : Rat) = (p.2.2.1 : Rat) := by
    rw [Rat.divInt_eq_div]
    refine Rat.div_mul_cancel ?_
    have : p.2.2.2 ≠ 0 := by omega
    exact_mod_cast this
  grind
end

section
variable {A : Rat → Prop} {Iv : List Pie → List Tg → Td → List Str3 → Prop} {ps : List Pie} {tg : List Tg} {t : Td} {acc : List Str3} {n m : Nat}
theorem on_btz {D X : Int} {k m : Nat} {a : Rat} (h0 : 0 < D) (hD : Bt m D) (h : On D a) (hX : Bt k X) (h1 : ((-X : Int) : Rat) ≤ a) (h2 : a ≤ (X : Rat)) : Bt (k + m) a.num ∧ Bt m (a.den : Int) := by
  obtain ⟨z, hz⟩ := h
  have dq : (0 : Rat) < (D : Rat) := by exact_mod_cast h0
  have e1 : -(X * D) ≤ z := by
    have : ((-(X * D) : Int) : Rat) ≤ (z : Rat) := by
      rw [← hz]
      have := Rat.mul_le_mul_of_nonneg_right h1 (Rat.le_of_lt dq)
      have e : ((-(X * D) : Int) : Rat) = ((-X : Int) : Rat) * (D : Rat) := by rw [← Rat.intCast_mul, Int.neg_mul]
      rw [e]; exact this
    exact_mod_cast this
  have e2 : z ≤ X * D := by
    have : (z : Rat) ≤ ((X * D : Int) : Rat) := by
      rw [← hz, Rat.intCast_mul]
      exact Rat.mul_le_mul_of_nonneg_right h2 (Rat.le_of_lt dq)
    exact_mod_cast this
  have bz : Bt (k + m) z := (hX.mul hD).le (by omega)
  have hb : (D : Rat) ≠ 0 := by
    have : D ≠ 0 := by omega
    exact_mod_cast this
  have e : a = Rat.divInt z D := by
    rw [Rat.divInt_eq_div, ← hz]
    grind
  rw [e]
  have dn : D ≠ 0 := by omega
  exact ⟨bt_num bz dn, bt_den hD dn⟩
def Bz (q : Rat) : Prop := Bt 2900 q.num ∧ Bt 2800 (q.den : Int)
theorem Bz.sz {q : Rat} (h : Bz q) : Sz q := ⟨h.1.up (by decide), h.2.up (by decide)⟩
theorem bz_of (h : TdZ n m t) (hn : n ≤ 2790) (hm : m ≤ 63) : Bz t.mo ∧ Bz t.he := by
  obtain ⟨D, d0, d1, o1, o2, o3, o4, o5⟩ := h.ex
  have d1 : Bt 2795 D := d1.up (by omega)
  have hX : Bt 60 bigX := by unfold Bt bigX; decide
  have neg : ((-bigX : Int) : Rat) ≤ 0 := rle (b := 0) (by unfold bigX; decide)
  have hh : t.he ≤ (bigX : Rat) := Rat.le_trans h.he.2 (rle (by unfold bigX; omega))
  have m0 := h.mo.1
  have h0 := h.he.1
  obtain ⟨a1, a2⟩ := on_btz d0 d1 o1 hX (by grind) h.mo.2
  obtain ⟨b1, b2⟩ := on_btz d0 d1 o2 hX (by grind) hh
  exact ⟨⟨a1.up (by decide), a2.up (by decide)⟩, ⟨b1.up (by decide), b2.up (by decide)⟩⟩
/-- what holds through a run, with sizes, and with the ends that are comings -/
structure IndZ (A : Rat → Prop) (Iv : List Pie → List Tg → Td → List Str3 → Prop) : Prop where
  up : ∀ {ps : List Pie} {tg : List Tg} {t : Td} {acc : List Str3} {h' m' : Rat}, Rn ps tg t acc → Iv ps tg t acc → hds t ≠ [] → t.he < h' → h' ≤ nearH (hds t) → t.mo < m' → m' - t.mo = (h' - t.he) * (whS (hds t) : Rat) → (h' = nearH (hds t) ∨ A m') → (Bz t.mo ∧ Bz t.he) → (Bz m' ∧ Bz h') → Iv ps tg { t with he := h', mo := m' } (acc ++ [(t.mo, m', (hds t).map fun e => (e.2.2.2, Rat.divInt e.2.2.1 (whS (hds t))))])
  idle : ∀ {ps : List Pie} {tg : List Tg} {t : Td} {acc : List Str3} {L : Rat}, Rn ps tg t acc → Iv ps tg t acc → hds t = [] → t.mo ≤ L → A L → Iv ps tg { t with mo := L } acc
  add : ∀ {ps : List Pie} {tg : List Tg} {t : Td} {acc : List Str3} {p : Pie}, Rn ps tg t acc → Iv ps tg t acc → 1 ≤ p.2.2.1 → 1 ≤ p.2.2.2 → t.mo = (p.1 : Rat) → Rn (ps ++ [p]) (tg ++ [(begT t p.2.1, begT t p.2.1 + Rat.divInt p.2.2.1 p.2.2.2, p.2.2.2)]) (addT t p.2.1 p.2.2.1 p.2.2.2) acc → Iv (ps ++ [p]) (tg ++ [(begT t p.2.1, begT t p.2.1 + Rat.divInt p.2.2.1 p.2.2.2, p.2.2.2)]) (addT t p.2.1 p.2.2.1 p.2.2.2) acc
theorem IndZ.go (I : IndZ A Iv) (h : Rn ps tg t acc) (v : Iv ps tg t acc) (z : TdZ n m t) (hn4 : n + 26 ≤ 2790) (hm : m ≤ 63) {L : Int} (hL : t.mo < (L : Rat)) (hX : L ≤ bigX) (hA : A (L : Rat)) : Iv ps tg (goT t (some (L : Rat))) (acc ++ (goR t (some (L : Rat))).toList) := by
  have b0 := bz_of z (by omega) hm
  have b1 : Bz (goT t (some (L : Rat))).mo ∧ Bz (goT t (some (L : Rat))).he := by
    rcases z.step hm hL hX with w | w
    · exact bz_of w.2 (by omega) hm
    · exact bz_of w.2.2 (by omega) hm
  rcases goT_cases (t := t) (L := (L : Rat)) with ⟨hn, e⟩ | ⟨hn, hc, e⟩ | ⟨hn, hc, e⟩
  · have er : goR t (some (L : Rat)) = none := by unfold goR; rw [if_pos hn]
    rw [er, e]
    show Iv ps tg _ (acc ++ [])
    rw [List.append_nil]
    exact I.idle h v hn (by grind) hA
  · have er : goR t (some (L : Rat)) = some (t.mo, (goT t (some (L : Rat))).mo, (hds t).map fun e => (e.2.2.2, Rat.divInt e.2.2.1 (whS (hds t)))) := by unfold goR; rw [if_neg hn]
    obtain ⟨e1, e2, e3⟩ := cut_bd h.tr.sh hn hL hc
    rw [e] at b1
    rw [er, e]
    exact I.up h v hn (by grind) (by grind) hL (by rw [← e1]; grind) (.inr hA) b0 b1
  · have er : goR t (some (L : Rat)) = some (t.mo, (goT t (some (L : Rat))).mo, (hds t).map fun e => (e.2.2.2, Rat.divInt e.2.2.1 (whS (hds t)))) := by unfold goR; rw [if_neg hn]
    obtain ⟨w0, lt, _, _⟩ := hd_pos h.tr.sh hn
    have hmo := (h.tr.go hL).mo.2
    rw [e] at hmo b1
    rw [er, e]
    exact I.up h v hn lt Rat.le_refl hmo (by unfold reach; grind) (.inl rfl) b0 b1
theorem indz_rk (I : IndZ A Iv) {L : Int} (hn4 : n + 26 ≤ 2790) (hm : m ≤ 63) (hX : L ≤ bigX) (hA : A (L : Rat)) : ∀ (k : Nat) (t : Td) (acc : List Str3), Rn ps tg t acc → (TdZ n m t ∨ ¬ t.mo < (L : Rat)) → Iv ps tg t acc → Iv ps tg (rk (L : Rat) k (t, acc)).1 (rk (L : Rat) k (t, acc)).2
  | 0, t, acc, h, z, v => v
  | k + 1, t, acc, h, z, v => by
    by_cases hlt : t.mo < (L : Rat)
    · have z : TdZ n m t := by
        rcases z with z | z
        · exact z
        · exact absurd hlt z
      rw [rk_step (s := (t, acc)) hlt]
      refine indz_rk I hn4 hm hX hA k _ _ (h.go hlt) ?_ (I.go h v z hn4 hm hlt hX hA)
      rcases z.step hm hlt hX with w | w
      · exact .inr (by rw [w.1]; exact Rat.lt_irrefl)
      · exact .inl w.2.2
    · rw [rk_stop (s := (t, acc)) hlt]; exact v
theorem IndZ.rise (I : IndZ A Iv) (h : Rn ps tg t acc) (v : Iv ps tg t acc) (z : TdZ n m t) (hn4 : n + 26 ≤ 2790) (hm : m ≤ 63) {L : Int} (hX : L ≤ bigX) (hA : A (L : Rat)) : Iv ps tg (Y.rise t (L : Rat)).1 (acc ++ (Y.rise t (L : Rat)).2) := by
  have h1 := indz_rk I (L := L) hn4 hm hX hA (t.fl.length + 1) t acc h (.inl z) v
  have e := rk_acc (L := (L : Rat)) (t.fl.length + 1) t acc []
  rw [List.append_nil] at e
  rw [e] at h1
  unfold Y.rise
  exact h1
theorem IndZ.goN (I : IndZ A Iv) (h : Rn ps tg t acc) (v : Iv ps tg t acc) (z : TdZ n m t) (hn4 : n ≤ 2790) (hm : m ≤ 63) (hn : hds t ≠ []) (hB : potD m t ≤ (bigX : Rat)) : Iv ps tg (goT t none) (acc ++ (goR t none).toList) := by
  have b0 := bz_of z hn4 hm
  have b1 := bz_of (drain_step z hm hn hB).1 hn4 hm
  obtain ⟨e, er⟩ := goT_none hn
  obtain ⟨w0, lt, _, _⟩ := hd_pos h.tr.sh hn
  have wq : (0 : Rat) < (whS (hds t) : Rat) := by exact_mod_cast w0
  have hmo : t.mo < reach t := by
    have := Rat.mul_pos (a := nearH (hds t) - t.he) (b := (whS (hds t) : Rat)) (by grind) wq
    unfold reach; grind
  rw [e] at b1
  rw [er, e]
  exact I.up h v hn lt Rat.le_refl hmo (by unfold reach; grind) (.inl rfl) b0 b1
theorem indz_dk (I : IndZ A Iv) (hn4 : n ≤ 2790) (hm : m ≤ 63) : ∀ (k : Nat) (t : Td) (acc : List Str3), Rn ps tg t acc → TdZ n m t → potD m t ≤ (bigX : Rat) → Iv ps tg t acc → Iv ps tg (dk2 k (t, acc)).1 (dk2 k (t, acc)).2
  | 0, t, acc, h, z, hB, v => v
  | k + 1, t, acc, h, z, hB, v => by
    by_cases hn : hds t = []
    · rw [dk2_stop (s := (t, acc)) hn]; exact v
    · rw [dk2_step (s := (t, acc)) hn]
      obtain ⟨z1, z2, _⟩ := drain_step z hm hn hB
      exact indz_dk I hn4 hm k _ _ (h.goN hn) z1 z2 (I.goN h v z hn4 hm hn hB)
theorem IndZ.drain (I : IndZ A Iv) (h : Rn ps tg t acc) (v : Iv ps tg t acc) (z : TdZ n m t) (hn4 : n ≤ 2790) (hm : m ≤ 63) (hmo : t.mo ≤ ((4000000000000 : Int) : Rat)) : Iv ps tg (Y.drain t).1 (acc ++ (Y.drain t).2) := by
  have hp0 : potD m t ≤ (bigX : Rat) := by
    unfold potD
    have h1 : ((m * 1000000 : Int) : Rat) ≤ ((63000000 : Int) : Rat) := rle (by omega)
    have h2 := z.he.1
    have h3 := Rat.mul_le_mul_of_nonneg_right (show ((m * 1000000 : Int) : Rat) - t.he ≤ ((63000000 : Int) : Rat) by grind) (show (0 : Rat) ≤ ((63000000 : Int) : Rat) from rle (a := 0) (by decide))
    have h4 : ((63000000 : Int) : Rat) * ((63000000 : Int) : Rat) + ((4000000000000 : Int) : Rat) ≤ (bigX : Rat) := by
      rw [← Rat.intCast_mul, ← Rat.intCast_add]; exact rle (by unfold bigX; decide)
    grind
  have h1 := indz_dk I hn4 hm (t.fl.length + 1) t acc h z hp0 v
  have e := dk_acc (t.fl.length + 1) t acc []
  rw [List.append_nil] at e
  rw [e] at h1
  unfold Y.drain
  exact h1
def AtR (row : List Pie) (q : Rat) : Prop := ∃ p ∈ row, q = (p.1 : Rat)
theorem IndZ.all {row : List Pie} (I : IndZ (AtR row) Iv) (hr : RowF row) (hs : row.Pairwise fun a b => a.1 ≤ b.1) (v0 : Iv [] [] ⟨0, 0, 0, [], []⟩ []) : ∀ j ≤ row.length, Iv (row.take j) (tgS row j) (fst0 (row.take j)).1 (fst0 (row.take j)).2
  | 0, _ => by rw [List.take_zero]; exact v0
  | j + 1, hj => by
    have ih := I.all hr hs v0 j (by omega)
    have hjl : j < row.length := hj
    have hx : row[j]? = some row[j] := List.getElem?_eq_getElem hjl
    have ew : whoP row j = row[j].2.1 := by unfold whoP; rw [List.getD_eq_getElem?_getD, hx]; rfl
    have ea : atP row j = row[j].1 := by unfold atP; rw [List.getD_eq_getElem?_getD, hx]; rfl
    have et : row.take (j + 1) = row.take j ++ [row[j]] := by rw [List.take_succ, hx]; rfl
    have hp := hr.each _ (List.getElem_mem hjl)
    have sa := sta_all hr hs hjl
    have hmo := sa.mo
    have h60 := hr.len
    obtain ⟨fz, _⟩ := fst0_all hr j (by omega)
    have v := I.rise (pre_all hr hs j (by omega)).rn ih fz.z (by omega) (by omega) (L := atP row j) (by rw [ea]; unfold bigX; omega) ⟨row[j], List.getElem_mem hjl, by rw [ea]⟩
    rw [ea] at hmo
    have h2 := (pre_all hr hs (j + 1) hj).rn
    rw [fst_succ hr hjl, tag_succ hjl, et, ew] at h2 ⊢
    exact I.add (p := row[j]) sa.rn v hp.2.1.1 hp.2.2.1 hmo h2
theorem IndZ.fin {row : List Pie} (I : IndZ (AtR row) Iv) (hr : RowF row) (hs : row.Pairwise fun a b => a.1 ≤ b.1) (v0 : Iv [] [] ⟨0, 0, 0, [], []⟩ []) : Iv row (tgS row row.length) (Y.drain (fst0 row).1).1 (flowS row) := by
  have h1 := I.all hr hs v0 row.length (Nat.le_refl _)
  have h2 := (pre_all hr hs row.length (Nat.le_refl _)).rn
  obtain ⟨fz, _⟩ := fst0_all hr row.length (Nat.le_refl _)
  rw [List.take_length] at h1 h2 fz
  have h60 := hr.len
  have ef : flowS row = (fst0 row).2 ++ (Y.drain (fst0 row).1).2 := by unfold flowS; rfl
  rw [ef]
  exact I.drain h2 h1 fz.z (by omega) (by omega) (Rat.le_trans fz.mo (rle (by decide)))
end

section
variable {A : Rat → Prop} {ps : List Pie} {tg : List Tg} {t : Td} {acc : List Str3} {h m h' hE mE : Rat} {x : Str3} {g : Tg} {p : Pie}
def shG (tg : List Tg) (z : Int) : Int := (tg.getD z.toNat (0, 0, 0)).2.2
def wG (tg : List Tg) (x : Str3) : Int := (x.2.2.map fun p => shG tg p.1).sum
/-- a stretch of the flow, from one height to the next -/
structure StepOk (A : Rat → Prop) (ps : List Pie) (tg : List Tg) (h m : Rat) (x : Str3) (h' : Rat) : Prop where
  lt : h < h'
  le : m ≤ x.1
  w0 : 0 < wG tg x
  wd : x.2.1 - x.1 = (h' - h) * (wG tg x : Rat)
  rt : ∀ p ∈ x.2.2, p.2 = Rat.divInt (shG tg p.1) (wG tg x)
  pw : x.2.2.Pairwise (fun a b => a.1 < b.1)
  hd : ∀ p ∈ x.2.2, ∃ i : Nat, p.1 = (i : Int) ∧ i < tg.length ∧ ∃ g, tg[i]? = some g ∧ g.1 ≤ h ∧ h < g.2.1
  hd2 : ∀ (i : Nat) (g : Tg), tg[i]? = some g → g.1 ≤ h → h < g.2.1 → ∃ p ∈ x.2.2, p.1 = (i : Int)
  en : ∀ (i : Nat) (g : Tg), tg[i]? = some g → g.1 ≤ h → h < g.2.1 → h' ≤ g.2.1
  bg : ∀ (i : Nat) (g : Tg), tg[i]? = some g → h < g.1 → h' ≤ g.1
  ct : (∃ (i : Nat) (g : Tg), tg[i]? = some g ∧ g.1 ≤ h ∧ h < g.2.1 ∧ g.2.1 = h') ∨ A x.2.1
  cm : ∀ i < ps.length, (atP ps i : Rat) ≤ x.1 ∨ x.2.1 ≤ (atP ps i : Rat)
  late : ∀ (i : Nat) (g : Tg), tg[i]? = some g → x.1 < (atP ps i : Rat) → h < g.1
  wt : ∀ (i : Nat) (g : Tg), tg[i]? = some g → h < g.1 → (atP ps i : Rat) ≤ x.1 → ∃ (k : Nat) (f : Tg), k < i ∧ whoP ps k = whoP ps i ∧ tg[k]? = some f ∧ h < f.2.1
  idl : m = x.1 ∨ (A x.1 ∧ ∀ (i : Nat) (g : Tg), tg[i]? = some g → (atP ps i : Rat) < x.1 → g.2.1 ≤ h)
  s0 : Bz x.1 ∧ Bz h
  s1 : Bz x.2.1 ∧ Bz h'
theorem StepOk.gt (s : StepOk A ps tg h m x h') : x.1 < x.2.1 := by
  have w : (0 : Rat) < (wG tg x : Rat) := by
    have := s.w0
    exact_mod_cast this
  have lt := s.lt
  have := Rat.mul_pos (a := h' - h) (b := (wG tg x : Rat)) (by grind) w
  have := s.wd
  grind
def Sim (A : Rat → Prop) (ps : List Pie) (tg : List Tg) : Rat → Rat → List Str3 → Rat → Rat → Prop
  | h, m, [], hE, mE => hE = h ∧ mE = m
  | h, m, x :: l, hE, mE => ∃ h', StepOk A ps tg h m x h' ∧ Sim A ps tg h' x.2.1 l hE mE
theorem Sim.le : ∀ {l : List Str3} {h m : Rat}, Sim A ps tg h m l hE mE → h ≤ hE ∧ m ≤ mE
  | [], h, m, s => ⟨s.1 ▸ Rat.le_refl, s.2 ▸ Rat.le_refl⟩
  | x :: l, h, m, ⟨h', s, r⟩ => by
    obtain ⟨r1, r2⟩ := Sim.le r
    have := s.lt
    have := s.gt
    have := s.le
    exact ⟨by grind, by grind⟩
theorem Sim.app {h2 : Rat} : ∀ {l : List Str3} {h m : Rat}, Sim A ps tg h m l hE mE → StepOk A ps tg hE mE x h2 → Sim A ps tg h m (l ++ [x]) h2 x.2.1
  | [], h, m, s, k => by
    obtain ⟨rfl, rfl⟩ := s
    exact ⟨h2, k, rfl, rfl⟩
  | y :: l, h, m, ⟨h', s, r⟩, k => ⟨h', s, Sim.app r k⟩
theorem Sim.mono {ps' : List Pie} {tg' : List Tg} (k : ∀ h m x h', StepOk A ps tg h m x h' → h' ≤ hE → x.2.1 ≤ mE → StepOk A ps' tg' h m x h') : ∀ {l : List Str3} {h m : Rat}, Sim A ps tg h m l hE mE → Sim A ps' tg' h m l hE mE
  | [], h, m, s => s
  | x :: l, h, m, ⟨h', s, r⟩ => by
    obtain ⟨r1, r2⟩ := Sim.le r
    exact ⟨h', k h m x h' s r1 r2, Sim.mono k r⟩
theorem app_get {α : Type} {l : List α} {a b : α} {i : Nat} (h : (l ++ [a])[i]? = some b) : l[i]? = some b ∨ (i = l.length ∧ b = a) := by
  by_cases hi : i < l.length
  · rw [List.getElem?_append_left hi] at h; exact .inl h
  · have hlt := (List.getElem?_eq_some_iff.mp h).1
    rw [List.length_append, List.length_singleton] at hlt
    have e : i = l.length := by omega
    rw [e, List.getElem?_append_right (Nat.le_refl _), Nat.sub_self] at h
    exact .inr ⟨e, (Option.some.inj h).symm⟩
theorem at_app {i : Nat} (h : i < ps.length) : atP (ps ++ [p]) i = atP ps i := by unfold atP; rw [getD_app h]
theorem who_app {i : Nat} (h : i < ps.length) : whoP (ps ++ [p]) i = whoP ps i := by unfold whoP; rw [getD_app h]
theorem at_new : atP (ps ++ [p]) ps.length = p.1 := by unfold atP; rw [List.getD_eq_getElem?_getD, List.getElem?_append_right (Nat.le_refl _), Nat.sub_self]; rfl
theorem StepOk.add (s : StepOk A ps tg h m x h') (hl : tg.length = ps.length) (hg : h' ≤ g.1) (hp : x.2.1 ≤ (p.1 : Rat)) : StepOk A (ps ++ [p]) (tg ++ [g]) h m x h' := by
  have sh : ∀ p ∈ x.2.2, shG (tg ++ [g]) p.1 = shG tg p.1 := fun q hq => by
    obtain ⟨i, e, hi, _⟩ := s.hd q hq
    unfold shG
    rw [e, Int.toNat_natCast, List.getD_eq_getElem?_getD, List.getD_eq_getElem?_getD, List.getElem?_append_left hi]
  have ew : wG (tg ++ [g]) x = wG tg x := by
    unfold wG
    rw [List.map_congr_left sh]
  have lt := s.lt
  have gt := s.gt
  have il : ∀ {i : Nat} {f : Tg}, tg[i]? = some f → i < ps.length := fun hf => by rw [← hl]; exact (List.getElem?_eq_some_iff.mp hf).1
  refine ⟨lt, s.le, by rw [ew]; exact s.w0, by rw [ew]; exact s.wd, fun q hq => by rw [sh q hq, ew]; exact s.rt q hq, s.pw, fun q hq => ?_, fun i f hf a b => ?_, fun i f hf a b => ?_, fun i f hf a => ?_, ?_, fun i hi => ?_, fun i f hf a => ?_, fun i f hf a b => ?_, ?_, s.s0, s.s1⟩
  · obtain ⟨i, e, hi, f, hf, k⟩ := s.hd q hq
    exact ⟨i, e, by rw [List.length_append]; omega, f, by rw [List.getElem?_append_left hi]; exact hf, k⟩
  · rcases app_get hf with z | ⟨z1, z2⟩
    · exact s.hd2 i f z a b
    · subst z2; grind
  · rcases app_get hf with z | ⟨z1, z2⟩
    · exact s.en i f z a b
    · subst z2; grind
  · rcases app_get hf with z | ⟨z1, z2⟩
    · exact s.bg i f z a
    · subst z2; exact hg
  · rcases s.ct with ⟨i, f, hf, k⟩ | z
    · exact .inl ⟨i, f, by rw [List.getElem?_append_left (List.getElem?_eq_some_iff.mp hf).1]; exact hf, k⟩
    · exact .inr z
  · by_cases hi2 : i < ps.length
    · rw [at_app hi2]; exact s.cm i hi2
    · have e : i = ps.length := by rw [List.length_append, List.length_singleton] at hi; omega
      rw [e, at_new]; exact .inr hp
  · rcases app_get hf with z | ⟨z1, z2⟩
    · rw [at_app (il z)] at a; exact s.late i f z a
    · subst z2; grind
  · rcases app_get hf with z | ⟨z1, z2⟩
    · rw [at_app (il z)] at b
      obtain ⟨k, f2, k1, k2, k3, k4⟩ := s.wt i f z a b
      exact ⟨k, f2, k1, by rw [who_app (il z), who_app (il k3)]; exact k2, by rw [List.getElem?_append_left (List.getElem?_eq_some_iff.mp k3).1]; exact k3, k4⟩
    · rw [z1, hl, at_new] at b; grind
  · rcases s.idl with z | ⟨z1, z2⟩
    · exact .inl z
    · refine .inr ⟨z1, fun i f hf a => ?_⟩
      rcases app_get hf with w | ⟨w1, w2⟩
      · rw [at_app (il w)] at a; exact z2 i f w a
      · rw [w1, hl, at_new] at a; grind
/-- what holds through the run -/
structure IvS (A : Rat → Prop) (ps : List Pie) (tg : List Tg) (t : Td) (acc : List Str3) : Prop where
  sim : ∃ mE, Sim A ps tg 0 0 acc t.he mE ∧ mE ≤ t.mo ∧ (mE = t.mo ∨ (A t.mo ∧ ∀ (i : Nat) (g : Tg), tg[i]? = some g → (atP ps i : Rat) < t.mo → g.2.1 ≤ t.he))
  past : ∀ i < ps.length, (atP ps i : Rat) ≤ t.mo
  nw : t.fl.Pairwise (fun a b => a.2.2.2 < b.2.2.2)
theorem head_sh (h : Rn ps tg t acc) {e : Fe} (he : e ∈ hds t) : shG tg e.2.2.2 = e.2.2.1 := by
  obtain ⟨i, e1, e2, e3, _⟩ := head_at h he
  unfold shG
  rw [e1, Int.toNat_natCast, List.getD_eq_getElem?_getD, e3]; rfl
theorem sh_le (h : Rn ps tg t acc) {W : Int} (x : Str3) (hx : x.2.2 = (hds t).map fun e => (e.2.2.2, Rat.divInt e.2.2.1 W)) : wG tg x = whS (hds t) := by
  unfold wG whS
  rw [hx, List.map_map]
  congr 1
  exact List.map_congr_left fun e he => head_sh h he
theorem ind_S : IndZ A (IvS A) where
  up := fun {ps tg t acc h' m'} h v hn hlt hle hm hw hn2 b0 b1 => by
    obtain ⟨w0, lt, ⟨en, hen, een⟩, nle⟩ := hd_pos h.tr.sh hn
    obtain ⟨x, ex⟩ : ∃ x : Str3, (t.mo, m', (hds t).map fun e => (e.2.2.2, Rat.divInt e.2.2.1 (whS (hds t)))) = x := ⟨_, rfl⟩
    have x1 : x.1 = t.mo := by rw [← ex]
    have x2 : x.2.1 = m' := by rw [← ex]
    have x3 : x.2.2 = (hds t).map fun e => (e.2.2.2, Rat.divInt e.2.2.1 (whS (hds t))) := by rw [← ex]
    have ew := sh_le h x x3
    have alv : ∀ (i : Nat) (g : Tg), tg[i]? = some g → t.he < g.2.1 → ∃ e ∈ t.fl, e.2.2.2 = (i : Int) ∧ tri e = g := h.lf
    obtain ⟨mE, sm, m1, m2⟩ := v.sim
    have st : StepOk A ps tg t.he mE x h' := by
      refine ⟨hlt, by rw [x1]; exact m1, by rw [ew]; exact w0, by rw [x1, x2, ew]; exact hw, fun q hq => ?_, ?_, fun q hq => ?_, fun i g hg a b => ?_, fun i g hg a b => ?_, fun i g hg a => ?_, ?_, fun i hi => .inl (by rw [x1]; exact v.past i hi), fun i g hg a => ?_, fun i g hg a b => ?_, ?_, by rw [x1]; exact b0, by rw [x2]; exact b1⟩
      · rw [x3] at hq
        obtain ⟨e, he, eq⟩ := List.mem_map.mp hq
        rw [← eq, ew]
        dsimp only
        rw [head_sh h he]
      · rw [x3, List.pairwise_map]
        unfold hds
        exact v.nw.filter _
      · rw [x3] at hq
        obtain ⟨e, he, eq⟩ := List.mem_map.mp hq
        obtain ⟨i, i1, i2, i3, i4, i5⟩ := head_at h he
        exact ⟨i, by rw [← eq]; exact i1, by rw [h.len]; exact i2, tri e, i3, Rat.not_lt.mp i4, i5⟩
      · obtain ⟨e, he, e1, e2⟩ := alv i g hg b
        rw [x3]
        refine ⟨_, List.mem_map.mpr ⟨e, mem_hds.mpr ⟨he, ?_, ?_⟩, rfl⟩, e1⟩
        · rw [← e2] at a; exact Rat.not_lt.mpr a
        · rw [← e2] at b; exact b
      · obtain ⟨e, he, e1, e2⟩ := alv i g hg b
        have mh : e ∈ hds t := mem_hds.mpr ⟨he, by rw [← e2] at a; exact Rat.not_lt.mpr a, by rw [← e2] at b; exact b⟩
        have := nle e mh
        rw [← e2]
        exact Rat.le_trans hle this
      · have hp := h.po g (List.mem_of_getElem? hg)
        obtain ⟨e, he, e1, e2⟩ := alv i g hg (by grind)
        rw [← e2] at a ⊢
        exact Rat.le_trans hle (h.tr.near he a).2
      · rcases hn2 with z | z
        · obtain ⟨i, i1, i2, i3, i4, i5⟩ := head_at h hen
          exact .inl ⟨i, tri en, i3, Rat.not_lt.mp i4, i5, by rw [z]; exact een.symm⟩
        · exact .inr (by rw [x2]; exact z)
      · have := v.past i (by rw [← h.len]; exact (List.getElem?_eq_some_iff.mp hg).1)
        rw [x1] at a; grind
      · obtain ⟨k0, k, hk, ek⟩ := h.wt i g hg a
        obtain ⟨k1, k2⟩ := lp_lt hk
        have hil := (List.getElem?_eq_some_iff.mp hg).1
        have hk2 : tg[k]? = some (tg[k]'(by omega)) := List.getElem?_eq_getElem (by omega)
        refine ⟨k, _, k1, k2, hk2, ?_⟩
        have : endG tg k = (tg[k]'(by omega)).2.1 := by unfold endG; rw [List.getD_eq_getElem?_getD, hk2]; rfl
        rw [← this, ek]; exact a
      · rw [x1]
        exact m2
    rw [ex]
    refine ⟨⟨m', by rw [← x2]; exact sm.app st, Rat.le_refl, .inl rfl⟩, fun i hi => ?_, v.nw⟩
    have := v.past i hi
    show (atP ps i : Rat) ≤ m'
    grind
  idle := fun {ps tg t acc L} h v hn hL hA => by
    obtain ⟨mE, sm, m1, m2⟩ := v.sim
    refine ⟨⟨mE, sm, Rat.le_trans m1 hL, .inr ⟨hA, fun i g hg _ => ?_⟩⟩, fun i hi => Rat.le_trans (v.past i hi) hL, v.nw⟩
    refine Rat.not_lt.mp fun z => ?_
    obtain ⟨e, he, e1, e2⟩ := h.lf i g hg z
    exact h.tr.dead hn e he (by rw [← e2] at z; exact z)
  add := fun {ps tg t acc p} h v hl hs hmo h2 => by
    obtain ⟨mE, sm, m1, m2⟩ := v.sim
    have hb : t.he ≤ begT t p.2.1 := begT_ge
    refine ⟨⟨mE, ?_, m1, ?_⟩, fun i hi => ?_, ?_⟩
    · refine sm.mono fun h0 m0 x h1 s k1 k2 => s.add h.len (Rat.le_trans k1 hb) ?_
      rw [← hmo]; exact Rat.le_trans k2 m1
    · rcases m2 with z | ⟨z1, z2⟩
      · exact .inl z
      · refine .inr ⟨z1, fun i g hg a => ?_⟩
        rcases app_get hg with w | ⟨w1, w2⟩
        · rw [at_app (by rw [← h.len]; exact (List.getElem?_eq_some_iff.mp w).1)] at a
          exact z2 i g w a
        · rw [w1, h.len, at_new] at a
          have a : (p.1 : Rat) < t.mo := a
          rw [hmo] at a
          exact absurd a Rat.lt_irrefl
    · by_cases hi2 : i < ps.length
      · rw [at_app hi2]; exact v.past i hi2
      · have e : i = ps.length := by rw [List.length_append, List.length_singleton] at hi; omega
        rw [e, at_new]
        show (p.1 : Rat) ≤ t.mo
        rw [hmo]; exact Rat.le_refl
    · unfold addT
      dsimp only
      rw [List.pairwise_append]
      refine ⟨v.nw.filter _, List.pairwise_singleton _ _, fun a ha b hb => ?_⟩
      rw [List.mem_singleton.mp hb]
      obtain ⟨i, i1, i2⟩ := h.fl a (List.mem_filter.mp ha).1
      have := (List.getElem?_eq_some_iff.mp i2).1
      have hl2 := h.len
      have hmn := h.mn
      dsimp only
      omega
/-- the whole flow -/
theorem flow_sim {row : List Pie} (hr : RowF row) (hs : row.Pairwise fun a b => a.1 ≤ b.1) : ∃ hE mE, Sim (AtR row) row (tgS row row.length) 0 0 (flowS row) hE mE ∧ ∀ i < row.length, (tagAt row i).2.1 ≤ hE := by
  have v0 : IvS (AtR row) [] [] ⟨0, 0, 0, [], []⟩ [] := ⟨⟨0, ⟨rfl, rfl⟩, Rat.le_refl, .inl rfl⟩, fun i hi => absurd hi (Nat.not_lt_zero _), List.Pairwise.nil⟩
  have v := ind_S.fin hr hs v0
  obtain ⟨mE, sm, _⟩ := v.sim
  exact ⟨_, mE, sm, (fin_all hr hs).dead⟩
end
section
variable {row : List Pie} {h m h' : Rat} {x : Str3}
abbrev StepR (row : List Pie) := StepOk (AtR row) row (tgS row row.length)
/-- the law's list of what has flowed out -/
structure Don (row : List Pie) (D : List Int) (h : Rat) : Prop where
  ok : ∀ i < row.length, ((i : Int) ∈ D ↔ (tagAt row i).2.1 ≤ h)
  pl : ∀ z ∈ D, ∃ i : Nat, z = (i : Int) ∧ i < row.length
  nd : D.Nodup
def isH (row : List Pie) (D : List Int) (s : Rat) (i : Nat) : Bool := !decide ((i : Int) ∈ D) && (decide ((atP row i : Rat) ≤ s) && decide (∀ k, k < i → whoP row k = whoP row i → (k : Int) ∈ D))
def headP (row : List Pie) (D : List Int) (s : Rat) : List Int := ((List.range row.length).filter (isH row D s)).map fun i : Nat => (i : Int)
theorem sorted_eq : ∀ {l1 l2 : List Int}, l1.Pairwise (· < ·) → l2.Pairwise (· < ·) → (∀ z, z ∈ l1 ↔ z ∈ l2) → l1 = l2
  | [], [], _, _, _ => rfl
  | [], b :: l2, _, _, h => absurd ((h b).mpr List.mem_cons_self) List.not_mem_nil
  | a :: l1, [], _, _, h => absurd ((h a).mp List.mem_cons_self) List.not_mem_nil
  | a :: l1, b :: l2, h1, h2, h => by
    obtain ⟨a1, a2⟩ := List.pairwise_cons.mp h1
    obtain ⟨b1, b2⟩ := List.pairwise_cons.mp h2
    have e : a = b := by
      rcases List.mem_cons.mp ((h a).mp List.mem_cons_self) with z | z
      · exact z
      · rcases List.mem_cons.mp ((h b).mpr List.mem_cons_self) with w | w
        · exact w.symm
        · have := a1 b w
          have := b1 a z
          omega
    subst e
    rw [sorted_eq a2 b2 fun z => ?_]
    constructor
    · intro hz
      rcases List.mem_cons.mp ((h z).mp (List.mem_cons_of_mem _ hz)) with w | w
      · have := a1 z hz; omega
      · exact w
    · intro hz
      rcases List.mem_cons.mp ((h z).mpr (List.mem_cons_of_mem _ hz)) with w | w
      · have := b1 z hz; omega
      · exact w
theorem mem_headP {D : List Int} {s : Rat} {z : Int} : z ∈ headP row D s ↔ ∃ i : Nat, z = (i : Int) ∧ i < row.length ∧ ¬ (i : Int) ∈ D ∧ (atP row i : Rat) ≤ s ∧ ∀ k, k < i → whoP row k = whoP row i → (k : Int) ∈ D := by
  unfold headP
  rw [List.mem_map]
  constructor
  · rintro ⟨i, hi, e⟩
    obtain ⟨h1, h2⟩ := List.mem_filter.mp hi
    unfold isH at h2
    simp only [Bool.and_eq_true, Bool.not_eq_true', decide_eq_false_iff_not, decide_eq_true_eq] at h2
    exact ⟨i, e.symm, List.mem_range.mp h1, h2.1, h2.2.1, h2.2.2⟩
  · rintro ⟨i, e, h1, h2, h3, h4⟩
    refine ⟨i, List.mem_filter.mpr ⟨List.mem_range.mpr h1, ?_⟩, e.symm⟩
    unfold isH
    simp only [Bool.and_eq_true, Bool.not_eq_true', decide_eq_false_iff_not, decide_eq_true_eq]
    exact ⟨h2, h3, h4⟩
theorem headP_sorted {D : List Int} {s : Rat} : (headP row D s).Pairwise (· < ·) := by
  unfold headP
  rw [List.pairwise_map]
  refine List.Pairwise.imp ?_ ((List.pairwise_lt_range (n := row.length)).filter _)
  intro a b hab
  omega
theorem tg_at {i : Nat} {g : Tg} (hg : (tgS row row.length)[i]? = some g) : i < row.length ∧ g = tagAt row i := by
  have hi := (List.getElem?_eq_some_iff.mp hg).1
  have hl : (tgS row row.length).length = row.length := by unfold tgS; rw [List.length_map, List.length_range]
  rw [hl] at hi
  rw [tgS_get hi] at hg
  exact ⟨hi, (Option.some.inj hg).symm⟩
theorem heads_eq (hr : RowF row) (hs : row.Pairwise fun a b => a.1 ≤ b.1) (s : StepR row h m x h') {D : List Int} (d : Don row D h) : headP row D x.1 = x.2.2.map (·.1) := by
  refine sorted_eq headP_sorted (by rw [List.pairwise_map]; exact s.pw) fun z => ?_
  rw [mem_headP, List.mem_map]
  constructor
  · rintro ⟨i, e, hi, h1, h2, h3⟩
    have hg := tgS_get (row := row) hi
    have hlt : h < (tagAt row i).2.1 := Rat.not_le.mp fun w => h1 ((d.ok i hi).mpr w)
    have hle : (tagAt row i).1 ≤ h := Rat.not_lt.mp fun w => by
      obtain ⟨k, f, k1, k2, k3, k4⟩ := s.wt i _ hg w h2
      obtain ⟨k5, k6⟩ := tg_at k3
      have := (d.ok k k5).mp (h3 k k1 k2)
      rw [k6] at k4
      grind
    obtain ⟨p, hp, ep⟩ := s.hd2 i _ hg hle hlt
    exact ⟨p, hp, by rw [ep, e]⟩
  · rintro ⟨p, hp, e⟩
    obtain ⟨i, e1, _, g, hg, g1, g2⟩ := s.hd p hp
    obtain ⟨hi, eg⟩ := tg_at hg
    subst eg
    refine ⟨i, by rw [← e, e1], hi, fun w => ?_, ?_, fun k hk hw => ?_⟩
    · have := (d.ok i hi).mp w
      grind
    · refine Rat.not_lt.mp fun w => ?_
      have := s.late i _ hg w
      grind
    · refine (d.ok k (by omega)).mpr ?_
      have := same_end (fin_all hr hs).rn i k _ _ hk hw (tgS_get (show k < row.length by omega)) hg
      exact Rat.le_trans this g1
theorem shG_row {i : Nat} (hi : i < row.length) : shG (tgS row row.length) (i : Int) = (row[i]).2.2.2 := by
  unfold shG
  rw [Int.toNat_natCast, List.getD_eq_getElem?_getD, tgS_get hi, Option.getD_some, tagAt_is (List.getElem?_eq_getElem hi)]
end

section
theorem all_repN {F : Hp} {Rs : List As} {xs : List V} (h : All F Rs xs) : ∀ n : Nat, All F (List.replicate n Rs).flatten (List.replicate n xs).flatten
  | 0 => trivial
  | n + 1 => by
    rw [List.replicate_succ, List.replicate_succ, List.flatten_cons, List.flatten_cons]
    exact h.app (all_repN h n)
theorem ev_repN {K : PySem.W.Frag} {Γ : Gm} {Ω : Om} {ta tb : TE} {Rs : List As} {k : Int} (ha : EvNw Γ Ω ta (oL Rs)) (hb : ∀ p, Ev Γ ((p, oL Rs) :: Ω) tb (I k)) (h0 : 0 ≤ k) (h1 : k ≤ 1000) (hl : Rs.length * k.toNat ≤ 100000) : Ev Γ Ω (tOp rRep ta tb) (Ls K (List.replicate k.toNat Rs).flatten) := fun Z F H σ c Q q =>
  ha Z F H σ c _ fun p F1 H1 c1 s1 hp => hb p Z F1 H1 σ c1 _ fun v F2 H2 c2 s2 rv => by
    cases rv
    obtain ⟨_, o, h2, xs, eo, hx⟩ := c2.own _ List.mem_cons_self
    subst eo
    refine ⟨p, k, xs, rfl, rfl, h2, by omega, by omega, ?_, fun a ha => ?_⟩
    · rw [hx.length]; exact Nat.le_trans hl (by decide)
    · obtain ⟨e, s⟩ := Ext.new (o := .lst (List.replicate k.toNat xs).flatten) c2.sub ha
      exact q (.ref a) _ _ ((c2.step e s).subl (List.Sublist.cons _ (List.Sublist.refl _))) (s1.trans (s2.trans e)) ⟨a, _, rfl, SqL.of upd_same, (all_repN hx _).mono e.fe⟩
end
section
variable {row : List Pie} {h m h' : Rat} {x : Str3} {D : List Int} {bg : Dd}
theorem risen_is {h s e : Rat} {W : Int} (hW : 0 < W) : Rat.divInt (h.num * (s.den * e.den * W) + (e.num * s.den - s.num * e.den) * h.den) (h.den * (s.den * e.den * W)) = h + (e - s) / (W : Rat) := by
  have h1 := q_den2 h
  have h2 := q_den2 s
  have h3 := q_den2 e
  have d1 : ((h.den : Int) : Rat) ≠ 0 := by have := r_den0 h; exact_mod_cast this
  have d2 : ((s.den : Int) : Rat) ≠ 0 := by have := r_den0 s; exact_mod_cast this
  have d3 : ((e.den : Int) : Rat) ≠ 0 := by have := r_den0 e; exact_mod_cast this
  have d4 : (W : Rat) ≠ 0 := by have : W ≠ 0 := by omega
                                exact_mod_cast this
  rw [Rat.divInt_eq_div]
  simp only [Rat.intCast_add, Rat.intCast_mul, Rat.intCast_sub]
  rw [← h1, ← h2, ← h3]
  generalize ((h.den : Int) : Rat) = a at *
  generalize ((s.den : Int) : Rat) = b at *
  generalize ((e.den : Int) : Rat) = c at *
  generalize (W : Rat) = w at *
  have ne : a * (b * c * w) ≠ 0 := fun z => by
    rcases Rat.mul_eq_zero.mp z with y | y
    · exact d1 y
    · rcases Rat.mul_eq_zero.mp y with y | y
      · rcases Rat.mul_eq_zero.mp y with y | y
        · exact d2 y
        · exact d3 y
      · exact d4 y
  have ww : (e - s) / w * w = e - s := Rat.div_mul_cancel d4
  have key : h * a * (b * c * w) + (e * c * b - s * b * c) * a = (h + (e - s) / w) * (a * (b * c * w)) := by
    generalize (e - s) / w = u at *
    have : e * c * b - s * b * c = u * w * (b * c) := by rw [ww]; grind
    rw [this]; grind
  rw [key, Rat.div_def, Rat.mul_assoc, Rat.mul_inv_cancel _ ne, Rat.mul_one]
def outS (b h : Rat) (p : Pie) : Int := if (p.2.2.1 : Rat) < (h - b) * (p.2.2.2 : Rat) then 1 else if (h - b) * (p.2.2.2 : Rat) < (p.2.2.1 : Rat) then -1 else 0
theorem out_is {b h : Rat} {p : Pie} : PyProof.Rows.b2i (decide ((h.num * b.den - b.num * h.den) * p.2.2.2 > p.2.2.1 * b.den * h.den)) - PyProof.Rows.b2i (decide ((h.num * b.den - b.num * h.den) * p.2.2.2 < p.2.2.1 * b.den * h.den)) = outS b h p := by
  have h1 := q_den2 b
  have h2 := q_den2 h
  have d1 : (0 : Rat) < ((b.den : Int) : Rat) := by have := r_den1 b; exact_mod_cast this
  have d2 : (0 : Rat) < ((h.den : Int) : Rat) := by have := r_den1 h; exact_mod_cast this
  have dd := Rat.mul_pos d1 d2
  have e1 : (((h.num * b.den - b.num * h.den) * p.2.2.2 : Int) : Rat) = (h - b) * (p.2.2.2 : Rat) * (((b.den : Int) : Rat) * ((h.den : Int) : Rat)) := by
    rw [Rat.intCast_mul, Rat.intCast_sub, Rat.intCast_mul, Rat.intCast_mul, ← h1, ← h2]; grind
  have e2 : ((p.2.2.1 * b.den * h.den : Int) : Rat) = (p.2.2.1 : Rat) * (((b.den : Int) : Rat) * ((h.den : Int) : Rat)) := by
    rw [Rat.intCast_mul, Rat.intCast_mul]; grind
  have l1 : (h.num * b.den - b.num * h.den) * p.2.2.2 < p.2.2.1 * b.den * h.den ↔ (h - b) * (p.2.2.2 : Rat) < (p.2.2.1 : Rat) := by
    rw [← Rat.intCast_lt_intCast, e1, e2]
    exact Rat.mul_lt_mul_right dd
  have l2 : p.2.2.1 * b.den * h.den < (h.num * b.den - b.num * h.den) * p.2.2.2 ↔ (p.2.2.1 : Rat) < (h - b) * (p.2.2.2 : Rat) := by
    rw [← Rat.intCast_lt_intCast, e1, e2]
    exact Rat.mul_lt_mul_right dd
  unfold outS PyProof.Rows.b2i
  simp only [decide_eq_true_eq, gt_iff_lt, l1, l2]
  by_cases a : (p.2.2.1 : Rat) < (h - b) * (p.2.2.2 : Rat)
  · have : ¬ (h - b) * (p.2.2.2 : Rat) < (p.2.2.1 : Rat) := by grind
    rw [if_pos a, if_pos a, if_neg this]; rfl
  · rw [if_neg a, if_neg a]
    split <;> rfl
theorem tag_len {i : Nat} (hr : RowF row) (hi : i < row.length) : ((tagAt row i).2.1 - (tagAt row i).1) * (((row[i]).2.2.2 : Int) : Rat) = (((row[i]).2.2.1 : Int) : Rat) := by
  rw [tagAt_is (List.getElem?_eq_getElem hi)]
  have hp := hr.each _ (List.getElem_mem hi)
  have : (((row[i]).2.2.2 : Int) : Rat) ≠ 0 := by
    have : (row[i]).2.2.2 ≠ 0 := by omega
    exact_mod_cast this
  have e : Rat.divInt (row[i]).2.2.1 (row[i]).2.2.2 * (((row[i]).2.2.2 : Int) : Rat) = (((row[i]).2.2.1 : Int) : Rat) := by
    rw [Rat.divInt_eq_div]; exact Rat.div_mul_cancel this
  dsimp only
  rw [← e]
  congr 1
  grind
theorem outS_tag (hr : RowF row) {i : Nat} (hi : i < row.length) : outS (tagAt row i).1 h' (row[i]) = if (tagAt row i).2.1 < h' then 1 else if h' < (tagAt row i).2.1 then -1 else 0 := by
  have e := tag_len hr hi
  have hp := hr.each _ (List.getElem_mem hi)
  have s0 : (0 : Rat) < (((row[i]).2.2.2 : Int) : Rat) := by
    have : 0 < (row[i]).2.2.2 := by omega
    exact_mod_cast this
  unfold outS
  rw [← e]
  generalize (((row[i]).2.2.2 : Int) : Rat) = s at *
  have l1 : ((tagAt row i).2.1 - (tagAt row i).1) * s < (h' - (tagAt row i).1) * s ↔ (tagAt row i).2.1 < h' := by
    rw [Rat.mul_lt_mul_right s0]
    constructor <;> intro z <;> grind
  have l2 : (h' - (tagAt row i).1) * s < ((tagAt row i).2.1 - (tagAt row i).1) * s ↔ h' < (tagAt row i).2.1 := by
    rw [Rat.mul_lt_mul_right s0]
    constructor <;> intro z <;> grind
  simp only [l1, l2]
/-- the law's begins -/
structure BgOk (row : List Pie) (bg : Dd) (h : Rat) : Prop where
  eq : ∀ i < row.length, ∀ b, getD (i : Int) bg = some b → b = (tagAt row i).1
  has : ∀ i < row.length, (tagAt row i).1 < h → ∃ b, getD (i : Int) bg = some b
def setAll (h : Rat) (zs : List Int) (bg : Dd) : Dd := zs.foldl (fun b z => setD b z h) bg
theorem setAll_get {h : Rat} {z : Int} : ∀ (zs : List Int) (bg : Dd), getD z (setAll h zs bg) = if z ∈ zs then some ((getD z bg).getD h) else getD z bg
  | [], bg => by rw [if_neg List.not_mem_nil]; rfl
  | w :: zs, bg => by
    have ih := setAll_get (h := h) (z := z) zs (setD bg w h)
    show getD z (setAll h zs (setD bg w h)) = _
    rw [ih, getD_set]
    by_cases e : z = w
    · subst e
      rw [if_pos rfl, if_pos List.mem_cons_self]
      split <;> simp
    · rw [if_neg e]
      by_cases m : z ∈ zs
      · rw [if_pos m, if_pos (List.mem_cons_of_mem _ m)]
      · rw [if_neg m, if_neg (by
          intro k
          rcases List.mem_cons.mp k with k | k
          · exact e k
          · exact m k)]
theorem setAll_len {h : Rat} : ∀ (zs : List Int) (bg : Dd), (setAll h zs bg).length ≤ bg.length + zs.length
  | [], bg => Nat.le_refl _
  | w :: zs, bg => by
    have ih := setAll_len (h := h) zs (setD bg w h)
    have := len_setD bg w h
    show (setAll h zs (setD bg w h)).length ≤ _
    rw [List.length_cons]; omega
/-- the places of a step -/
theorem StepOk.at (hr : RowF row) (s : StepR row h m x h') {z : Int} (hz : z ∈ x.2.2.map (·.1)) : ∃ i : Nat, z = (i : Int) ∧ i < row.length ∧ (tagAt row i).1 ≤ h ∧ h < (tagAt row i).2.1 := by
  obtain ⟨p, hp, e⟩ := List.mem_map.mp hz
  obtain ⟨i, e1, _, g, hg, g1, g2⟩ := s.hd p hp
  obtain ⟨hi, eg⟩ := tg_at hg
  subst eg
  exact ⟨i, by rw [← e, e1], hi, g1, g2⟩
theorem StepOk.of (s : StepR row h m x h') {i : Nat} (hi : i < row.length) (h1 : (tagAt row i).1 ≤ h) (h2 : h < (tagAt row i).2.1) : (i : Int) ∈ x.2.2.map (·.1) := by
  obtain ⟨p, hp, e⟩ := s.hd2 i _ (tgS_get hi) h1 h2
  exact List.mem_map.mpr ⟨p, hp, e⟩
theorem bg_set (hr : RowF row) (s : StepR row h m x h') (b : BgOk row bg h) : BgOk row (setAll h (x.2.2.map (·.1)) bg) h' ∧ ∀ z ∈ x.2.2.map (·.1), getD z (setAll h (x.2.2.map (·.1)) bg) = some (tagAt row z.toNat).1 := by
  have key : ∀ z ∈ x.2.2.map (·.1), getD z (setAll h (x.2.2.map (·.1)) bg) = some (tagAt row z.toNat).1 := fun z hz => by
    obtain ⟨i, e, hi, g1, g2⟩ := s.at hr hz
    rw [setAll_get, if_pos hz, e, Int.toNat_natCast]
    cases eg : getD (i : Int) bg with
    | some y => rw [b.eq i hi y eg]; rfl
    | none =>
      have : ¬ (tagAt row i).1 < h := fun w => by
        obtain ⟨y, hy⟩ := b.has i hi w
        rw [eg] at hy; cases hy
      have : (tagAt row i).1 = h := by grind
      rw [this]; rfl
  refine ⟨⟨fun i hi y hy => ?_, fun i hi hlt => ?_⟩, key⟩
  · by_cases hz : (i : Int) ∈ x.2.2.map (·.1)
    · rw [key _ hz, Int.toNat_natCast] at hy
      exact (Option.some.inj hy).symm
    · rw [setAll_get, if_neg hz] at hy
      exact b.eq i hi y hy
  · by_cases hz : (i : Int) ∈ x.2.2.map (·.1)
    · exact ⟨_, key _ hz⟩
    · rw [setAll_get, if_neg hz]
      refine b.has i hi (Rat.not_le.mp fun w => hz ?_)
      have hpo : (tagAt row i).1 = h := by
        by_cases q : h < (tagAt row i).1
        · have := s.bg i _ (tgS_get hi) q
          grind
        · grind
      refine s.of hi (by grind) ?_
      have hp := hr.each _ (List.getElem_mem hi)
      have dp := div_pos hp.2.1.1 (show 0 < (row[i]).2.2.2 by omega)
      rw [tagAt_is (List.getElem?_eq_getElem hi)] at hpo ⊢
      dsimp only at hpo ⊢
      grind
/-- what a head has flowed -/
def ovP (row : List Pie) (h' : Rat) (z : Int) : Int := outS (tagAt row z.toNat).1 h' (row.getD z.toNat (0, 0, 0, 0))
theorem ovP_at (hr : RowF row) {i : Nat} (hi : i < row.length) : ovP row h' (i : Int) = if (tagAt row i).2.1 < h' then 1 else if h' < (tagAt row i).2.1 then -1 else 0 := by
  unfold ovP
  rw [Int.toNat_natCast, List.getD_eq_getElem?_getD, List.getElem?_eq_getElem hi, Option.getD_some, outS_tag hr hi]
theorem ov_ok (hr : RowF row) (s : StepR row h m x h') : ¬ (1 : Int) ∈ (x.2.2.map (·.1)).map (ovP row h') ∧ ((0 : Int) ∈ (x.2.2.map (·.1)).map (ovP row h') ∨ AtR row x.2.1) := by
  constructor
  · intro w
    obtain ⟨z, hz, e⟩ := List.mem_map.mp w
    obtain ⟨i, ei, hi, g1, g2⟩ := s.at hr hz
    rw [ei, ovP_at hr hi] at e
    have := s.en i _ (tgS_get hi) g1 g2
    split at e
    · grind
    · split at e <;> omega
  · rcases s.ct with ⟨i, g, hg, g1, g2, g3⟩ | z
    · obtain ⟨hi, eg⟩ := tg_at hg
      subst eg
      refine .inl (List.mem_map.mpr ⟨_, s.of hi g1 g2, ?_⟩)
      rw [ovP_at hr hi, g3, if_neg Rat.lt_irrefl, if_neg Rat.lt_irrefl]
    · exact .inr z
theorem don_step (hr : RowF row) (s : StepR row h m x h') (d : Don row D h) : Don row (D ++ (x.2.2.map (·.1)).filter fun z => decide (ovP row h' z = 0)) h' := by
  have lt := s.lt
  have zero : ∀ i < row.length, (tagAt row i).1 ≤ h → h < (tagAt row i).2.1 → (ovP row h' (i : Int) = 0 ↔ (tagAt row i).2.1 ≤ h') := fun i hi g1 g2 => by
    have := s.en i _ (tgS_get hi) g1 g2
    rw [ovP_at hr hi]
    constructor
    · intro z
      split at z
      · grind
      · split at z
        · omega
        · grind
    · intro z
      rw [if_neg (by grind), if_neg (by grind)]
  refine ⟨fun i hi => ?_, fun z hz => ?_, ?_⟩
  · rw [List.mem_append, List.mem_filter, d.ok i hi]
    constructor
    · rintro (w | ⟨w1, w2⟩)
      · grind
      · obtain ⟨k, e, hk, g1, g2⟩ := s.at hr w1
        have : k = i := by omega
        subst this
        exact (zero k hk g1 g2).mp (of_decide_eq_true w2)
    · intro w
      by_cases q : (tagAt row i).2.1 ≤ h
      · exact .inl q
      · have q : h < (tagAt row i).2.1 := Rat.not_le.mp q
        have g1 : (tagAt row i).1 ≤ h := Rat.not_lt.mp fun v => by
          have := s.bg i _ (tgS_get hi) v
          have hp := hr.each _ (List.getElem_mem hi)
          have dp := div_pos hp.2.1.1 (show 0 < (row[i]).2.2.2 by omega)
          rw [tagAt_is (List.getElem?_eq_getElem hi)] at this w
          dsimp only at this w
          grind
        exact .inr ⟨s.of hi g1 q, decide_eq_true ((zero i hi g1 q).mpr w)⟩
  · rcases List.mem_append.mp hz with w | w
    · exact d.pl z w
    · obtain ⟨k, e, hk, _⟩ := s.at hr (List.mem_filter.mp w).1
      exact ⟨k, e, hk⟩
  · rw [List.nodup_append]
    refine ⟨d.nd, ?_, fun a ha b hb e => ?_⟩
    · have : (x.2.2.map (·.1)).Pairwise (· < ·) := by rw [List.pairwise_map]; exact s.pw
      exact (this.filter _).imp (fun {a b} hab => by omega)
    · subst e
      obtain ⟨k, e, hk, g1, g2⟩ := s.at hr (List.mem_filter.mp hb).1
      rw [e] at ha
      have := (d.ok k hk).mp ha
      grind
theorem don_all (d : Don row D h) (ha : ∀ i < row.length, (tagAt row i).2.1 ≤ h) : D.length = row.length := by
  have hp : D.Perm ((List.range row.length).map fun i : Nat => (i : Int)) := by
    refine (List.perm_ext_iff_of_nodup d.nd ?_).mpr fun z => ?_
    · have : ((List.range row.length).map fun i : Nat => (i : Int)).Pairwise (· < ·) := by
        rw [List.pairwise_map]
        exact (List.pairwise_lt_range (n := row.length)).imp (fun {a b} hab => by omega)
      exact this.imp (fun {a b} hab => by omega)
    · rw [List.mem_map]
      constructor
      · intro w
        obtain ⟨i, e, hi⟩ := d.pl z w
        exact ⟨i, List.mem_range.mpr hi, e.symm⟩
      · rintro ⟨i, hi, e⟩
        have hi := List.mem_range.mp hi
        rw [← e]
        exact (d.ok i hi).mpr (ha i hi)
  rw [hp.length_eq, List.length_map, List.length_range]
theorem wG_le (hr : RowF row) (s : StepR row h m x h') (hl : x.2.2.length ≤ 63) : wG (tgS row row.length) x ≤ 63000000 := by
  have : ∀ l : List (Int × Rat), (∀ p ∈ l, shG (tgS row row.length) p.1 ≤ 1000000) → (l.map fun p => shG (tgS row row.length) p.1).sum ≤ l.length * 1000000 := fun l => by
    induction l with
    | nil => intro _; exact Int.le_refl _
    | cons a l ih =>
      intro hx
      have h1 := ih fun p hp => hx p (List.mem_cons_of_mem _ hp)
      have h2 := hx a List.mem_cons_self
      rw [List.map_cons, List.sum_cons, List.length_cons]; omega
  have h1 := this x.2.2 fun p hp => by
    obtain ⟨i, e, hi, _⟩ := s.at hr (List.mem_map.mpr ⟨p, hp, rfl⟩)
    rw [e, shG_row hi]
    exact (hr.each _ (List.getElem_mem hi)).2.2.2
  unfold wG
  omega
end

def GoodN (few : Int) (k : Nat) (at0 : Int) (row : List Pie) : Prop := row.length = k ∧ (∀ p ∈ row, 0 ≤ p.1 ∧ p.1 ≤ at0 ∧ 0 ≤ p.2.1 ∧ p.2.1 < few ∧ 1 ≤ p.2.2.1 ∧ p.2.2.1 ≤ 1000000 ∧ 1 ≤ p.2.2.2 ∧ p.2.2.2 ≤ 1000000) ∧ (row.Pairwise fun a b => a.1 ≤ b.1) ∧ 0 ≤ at0 ∧ at0 ≤ k * 1000000000
theorem GoodN.turn {few at0 d w l s : Int} {k : Nat} {row : List Pie} (h : GoodN few k at0 row) (d0 : 0 ≤ d) (d1 : d ≤ 1000000000) (w0 : 0 ≤ w) (w1 : w < few) (l0 : 1 ≤ l) (l1 : l ≤ 1000000) (s0 : 1 ≤ s) (s1 : s ≤ 1000000) : GoodN few (k + 1) (at0 + d) (row ++ [(at0 + d, w, l, s)]) := by
  obtain ⟨h1, h2, h3, h4, h5⟩ := h
  refine ⟨by rw [List.length_append, h1]; rfl, fun p hp => ?_, ?_, by omega, by omega⟩
  · rcases List.mem_append.mp hp with hp | hp
    · have := h2 p hp
      omega
    · rw [List.mem_singleton.mp hp]
      dsimp only
      omega
  · rw [List.pairwise_append]
    refine ⟨h3, List.pairwise_singleton _ _, fun a ha b hb => ?_⟩
    rw [List.mem_singleton.mp hb]
    have := h2 a ha
    dsimp only
    omega
theorem cells_rep {xs : List Int} {n : Nat} : ((List.replicate n (xs.map fun n => I n)).flatten) = ((List.replicate n xs).flatten).map fun n => I n := by
  rw [List.map_flatten, List.map_replicate]

abbrev prO2 (K : PySem.W.Frag) (e : Addr × Str3) : Addr × OA := (e.1, oL (e.2.2.2.map (PrA K) ++ [PrA K (0, ((1 : Int) : Rat))]))
def owE (K : PySem.W.Frag) (es : List (Addr × Str3)) (k : Nat) : Om := (es.take k).map (prO2 K) ++ (es.drop k).map (prO K)
theorem owE_0 {K : PySem.W.Frag} {es : List (Addr × Str3)} : owE K es 0 = es.map (prO K) := by
  unfold owE
  rw [List.take_zero, List.drop_zero]; rfl
theorem owE_split {K : PySem.W.Frag} {es : List (Addr × Str3)} {k : Nat} {e : Addr × Str3} (h : es[k]? = some e) : ∃ l r : Om, l.length = k ∧ owE K es k = l ++ prO K e :: r ∧ owE K es (k + 1) = l ++ prO2 K e :: r := by
  have hl := (List.getElem?_eq_some_iff.mp h).1
  refine ⟨(es.take k).map (prO2 K), (es.drop (k + 1)).map (prO K), by rw [List.length_map, List.length_take]; omega, ?_, ?_⟩
  · unfold owE
    rw [List.drop_eq_getElem_cons hl, (List.getElem?_eq_some_iff.mp h).2]; rfl
  · unfold owE
    rw [List.take_succ, h, List.map_append, List.append_assoc]; rfl
theorem len_flow {row : List Pie} (hr : RowF row) : (flowS row).length ≤ 6300 := by
  obtain ⟨fz, _⟩ := fst0_all hr row.length (Nat.le_refl _)
  rw [List.take_length] at fz
  have h60 := hr.len
  have l1 := drain_len (t := (fst0 row).1)
  have l2 := fz.z.ln
  have l3 := fz.ln
  unfold flowS
  rw [List.length_append]; omega
theorem ev_lsthZ {Γ : Gm} {Ω : Om} {ta : TA} {Rs : List As} (h : EvA Γ Ω ta Rs) (hl : Rs.length ≤ 1000 := by decide) : Ev Γ Ω (tLst ta) (Lh Rs) := fun Z F H σ c Q q =>
  h Z F H σ c _ fun vs F1 H1 c1 s1 rs => ⟨by rw [rs.length]; exact Nat.le_of_lt (small1000 hl), fun p hp => by
    obtain ⟨e, s⟩ := Ext.new (o := .lst vs) c1.sub hp
    exact q (.ref p) _ _ (c1.step e s) (s1.trans e) ⟨p, vs, rfl, upd_same, rs.mono e.fe⟩⟩
theorem don_len {row : List Pie} {D : List Int} {h : Rat} (d : Don row D h) : D.length ≤ row.length := by
  have hn : ((List.range row.length).map fun i : Nat => (i : Int)).Nodup := by
    have : ((List.range row.length).map fun i : Nat => (i : Int)).Pairwise (· < ·) := by
      rw [List.pairwise_map]
      exact (List.pairwise_lt_range (n := row.length)).imp (fun {a b} hab => by omega)
    exact this.imp (fun {a b} hab => by omega)
  have hp : D.Perm (((List.range row.length).map fun i : Nat => (i : Int)).filter fun z => decide (z ∈ D)) := by
    refine (List.perm_ext_iff_of_nodup d.nd (hn.filter _)).mpr fun z => ?_
    rw [List.mem_filter, decide_eq_true_iff]
    constructor
    · intro w
      obtain ⟨i, e, hi⟩ := d.pl z w
      exact ⟨List.mem_map.mpr ⟨i, List.mem_range.mpr hi, e.symm⟩, w⟩
    · exact fun w => w.2
  rw [hp.length_eq]
  refine Nat.le_trans (List.length_filter_le _ _) ?_
  rw [List.length_map, List.length_range]; exact Nat.le_refl _
theorem bz0 : Bz 0 := ⟨by show Bt 2900 0; unfold Bt; exact Nat.two_pow_pos _, by show Bt 2800 1; unfold Bt; exact Nat.one_lt_two_pow (by decide)⟩

section
variable {P : Program} {w : World} {K : PySem.W.Frag} {mg : Str → Option Value} {base : Heap} {C : Str → Addr}
def sp_divisor (K : PySem.W.Frag) (C : Str → Addr) : Sp := CtF (fun a : Int × Int => [I a.1, I a.2]) (fun _ => True) (fun a => I (Int.gcd a.1 a.2 : Int))
theorem ok_divisor (T : G K mg C)  : Dn P w K mg base 1 "divisor" ["one", "other"] (sp_divisor K C) := by
  refine T.d_divisor.ok sc_divisor (by first | exact CtF.len (fun _ => rfl) | exact CtE.len (fun _ => rfl) | exact CtR.len (fun _ => rfl) | exact CtM.len (fun _ => rfl) | exact CtO.len (fun _ => rfl) | exact CtRO.len (fun _ => rfl) | exact CtX.len (fun _ => rfl) | exact CtMX.len (fun _ => rfl) | exact CtME.len (fun _ => rfl) | exact CtG.len (fun _ => rfl) | exact CtOX.len (fun _ => rfl) | exact CtV.len (fun _ => rfl) | exact spOr_len (by first | exact CtR.len (fun _ => rfl) | exact CtM.len (fun _ => rfl) | exact CtG.len (fun _ => rfl) | exact CtF.len (fun _ => rfl) | exact CtRO.len (fun _ => rfl)) (by first | exact CtRO.len (fun _ => rfl) | exact CtN.len (fun _ => rfl) | exact CtR.len (fun _ => rfl) | exact CtG.len (fun _ => rfl) | exact CtM.len (fun _ => rfl)) | exact sp_divisor_len) (fun f cdv A outer s H vs Q E hr h => ?_)
  obtain ⟨⟨x, y⟩, F, sFH, ha, hp, hq⟩ := h
  have c := ctx_start (N := ["one", "other", "rest"]) sFH ha
  refine ⟨_, (pss_cons (ps_set (i := 0) sc_divisor.nd rfl (by first | exact Or.inl rfl | exact Or.inr rfl) (pe_callB call_abs (by rfl) T.b_abs (by decide +kernel) (pa_cons (pv 0) pa_nil)))
    (pss_cons (ps_set (i := 1) sc_divisor.nd rfl (by first | exact Or.inl rfl | exact Or.inr rfl) (pe_callB call_abs (by rfl) T.b_abs (by decide +kernel) (pa_cons (pv 1) pa_nil)))
    (pss_cons (ps_while PassesOwn.never (pt_cmpR op_gt (pv 1) pe_int (nomark _))
      (pss_cons (ps_set (i := 2) sc_divisor.nd rfl (by first | exact Or.inl rfl | exact Or.inr rfl) (pe_op op_mod (pv 0) (pv 1)))
      (pss_cons (ps_set (i := 0) sc_divisor.nd rfl (by first | exact Or.inl rfl | exact Or.inr rfl) (pv 1))
      (pss_one (ps_set (i := 1) sc_divisor.nd rfl (by first | exact Or.inl rfl | exact Or.inr rfl) (pv 2))))))
    (pss_one (ps_ret (pv 0)))))), ?_⟩
  refine sq (st_set c (ev_cb (ea_cons (ev_var rfl) ea_nil) rc_abs) (fun F H σ c _ => ?_))
  refine sq (st_set c (ev_cb (ea_cons (ev_var rfl) ea_nil) rc_abs) (fun F H σ c _ => ?_))
  refine sq (st_while (fun i : Int × Int × Option As => [some (I i.1), some (I i.2.1), i.2.2]) (fun _ => []) (fun i => 0 ≤ i.1 ∧ 0 ≤ i.2.1 ∧ Int.gcd i.1 i.2.1 = Int.gcd x y) (fun i => i.2.1.toNat) (fun i => decide (0 < i.2.1)) ((x.natAbs : Int), (y.natAbs : Int), none) c ⟨Int.natCast_nonneg _, Int.natCast_nonneg _, ?_⟩ (fun i _ => et_test (ev_I0 (ev_var rfl) ev_c)) ?_ ?_)
  · rfl
  · rintro ⟨u, v, r⟩ F H σ N ⟨h1, h2, h3⟩ hb c hN
    dsimp only at h1 h2 h3
    have hv : 0 < v := of_decide_eq_true hb
    refine sq (st_set c (ev_I (ev_var rfl) (ev_var rfl) hv) (fun F H σ c _ => ?_))
    refine sq (st_set c (ev_var rfl) (fun F H σ c _ => ?_))
    refine st_set c (ev_var rfl) (fun F H σ c _ => ?_)
    have hm := Int.emod_nonneg u (Int.ne_of_gt hv)
    have hm2 := Int.emod_lt_of_pos u hv
    exact hN (v, u % v, some (I (u % v))) F H σ ⟨h2, hm, (gcd_turn h1 hv).trans h3⟩ (by show (u % v).toNat < v.toNat; omega) c
  · rintro ⟨u, v, r⟩ F H σ ⟨h1, h2, h3⟩ hb c
    dsimp only at h1 h2 h3
    have hv : ¬ 0 < v := of_decide_eq_false hb
    have hv0 : v = 0 := by omega
    subst hv0
    refine st_ret c (ev_var rfl) (fun v F' H' c _ r => hq v F' H' c.ext c.sub ?_)
    have z : (Int.gcd x y : Int) = u := by rw [← h3]; simp; omega
    show v = V.int (Int.gcd x y : Int)
    rw [z]; exact r
def sp_ratio (K : PySem.W.Frag) (C : Str → Addr) : Sp := CtE (fun a : Int × Int => [I a.1, I a.2]) (fun a => Bt 8990 a.2) (fun a => Fq K (Rat.divInt a.1 a.2)) (fun a => a.2 ≠ 0) (C "NoRatio")
theorem ok_ratio (T : G K mg C) (D_divisor : Dn P w K mg base 1 "divisor" ["one", "other"] (sp_divisor K C)) : Dn P w K mg base 2 "ratio" ["top", "bottom"] (sp_ratio K C) := by
  refine T.d_ratio.okX sc_ratio (by first | exact CtF.len (fun _ => rfl) | exact CtE.len (fun _ => rfl) | exact CtR.len (fun _ => rfl) | exact CtM.len (fun _ => rfl) | exact CtO.len (fun _ => rfl) | exact CtRO.len (fun _ => rfl) | exact CtX.len (fun _ => rfl) | exact CtMX.len (fun _ => rfl) | exact CtME.len (fun _ => rfl) | exact CtG.len (fun _ => rfl) | exact CtOX.len (fun _ => rfl) | exact CtV.len (fun _ => rfl) | exact spOr_len (by first | exact CtR.len (fun _ => rfl) | exact CtM.len (fun _ => rfl) | exact CtG.len (fun _ => rfl) | exact CtF.len (fun _ => rfl) | exact CtRO.len (fun _ => rfl)) (by first | exact CtRO.len (fun _ => rfl) | exact CtN.len (fun _ => rfl) | exact CtR.len (fun _ => rfl) | exact CtG.len (fun _ => rfl) | exact CtM.len (fun _ => rfl)) | exact sp_ratio_len) (fun f cdv A outer s H vs Q E hr h => ?_)
  obtain ⟨⟨t, b⟩, F, sFH, ha, hp, hq, hx⟩ := h
  have c := ctx_start (N := ["top", "bottom", "shared"]) sFH ha
  dsimp only at hp hq hx
  refine ⟨_, (pss_cons (ps_if (pt_cmpR op_eq (pv 1) pe_int (nomark _))
      (pss_one (L2N.ps_raise rfl (L2N.takes_of rfl rfl rfl rfl) (L2N.pmk_own PySem.F.excBase_ValueError T.x_NoRatio.ex T.x_NoRatio.gC T.x_NoRatio.kC (raises_own T.x_NoRatio.sB T.x_NoRatio.tC) (by exact rfl))))
      pss_nil)
    (pss_cut (ps_if (pt_cmpR op_lt (pv 1) pe_int (nomark _))
      (pss_cons (ps_set (i := 0) sc_ratio.nd rfl (by first | exact Or.inl rfl | exact Or.inr rfl) (pe_op op_sub pe_int (pv 0)))
      (pss_one (ps_set (i := 1) sc_ratio.nd rfl (by first | exact Or.inl rfl | exact Or.inr rfl) (pe_op op_sub pe_int (pv 1)))))
      pss_nil)
    (pss_cons (ps_set (i := 2) sc_ratio.nd rfl (by first | exact Or.inl rfl | exact Or.inr rfl) (pe_d D_divisor (hr.mono (by decide)) (by rfl) (pa_cons (pv 0) (pa_cons (pv 1) pa_nil))))
    (pss_one (ps_ret (pe_tup (pa_cons (pe_op op_fdivW (pv 0) (pv 2)) (pa_cons (pe_op op_fdivW (pv 1) (pv 2)) pa_nil)))))))), ?_⟩
  refine sq (st_if c (et_test (ev_eqI (ev_var rfl) ev_c)) (fun hb F H c _ => ?_) (fun hb F H c _ => ?_))
  · have hb : b = 0 := by simpa using hb
    exact hx (fun z => z hb) F H c.ext c.sub
  have hb : b ≠ 0 := by simpa using hb
  have hq := hq hb
  refine nxt (cut c (fun i : Int × Int => [some (I i.1), some (I i.2), none]) (fun _ => []) (fun i => 0 < i.2 ∧ Bt 8990 i.2 ∧ (i.1 / (Int.gcd i.1 i.2 : Int), i.2 / (Int.gcd i.1 i.2 : Int)) = ((Rat.divInt t b).num, ((Rat.divInt t b).den : Int))) (fun N hN => ?_) ?_)
  · refine st_if c (et_test (ev_I0 (ev_var rfl) ev_c)) (fun hn F H c _ => ?_) (fun hn F H c _ => ?_)
    · have hn : b < 0 := by simpa using hn
      refine sq (st_set c (ev_I0 ev_c (ev_var rfl)) (fun F H σ c _ => ?_))
      refine st_set c (ev_I0 ev_c (ev_var rfl)) (fun F H σ c _ => ?_)
      exact hN (0 - t, 0 - b) F H σ ⟨by show 0 < 0 - b; omega, hp.neg, fr_neg t b hn⟩ c
    · have hn : ¬ b < 0 := by simpa using hn
      have h0 : 0 < b := by omega
      exact nxt (hN (t, b) F H _ ⟨h0, hp, fr_of t b h0⟩ c)
  rintro ⟨u, v⟩ F H σ ⟨h1, h2, h3⟩ c
  dsimp only at h1 h2 h3
  have v0 : v ≠ 0 := by omega
  refine sq (st_set c (ev_call (_, _) (ea_cons (ev_var rfl) (ea_cons (ev_var rfl) ea_nil)) (by trivial)) (fun F H σ c _ => ?_))
  have g1 := gcd_pos (x := u) v0
  have g2 := gcd_bt (x := u) h2 v0
  refine st_ret c (ev_fq (ev_fr (ea_cons (ev_I (ev_var rfl) (ev_var rfl) (by exact g2.divW g1)) (ea_cons (ev_I (ev_var rfl) (ev_var rfl) (by exact g2.divW g1)) ea_nil))) h3) (fun v F' H' c _ r => hq v F' H' c.ext c.sub r)
def sp_plus (K : PySem.W.Frag) (C : Str → Addr) : Sp := CtF (fun a : Rat × Rat => [Fq K a.1, Fq K a.2]) (fun a => Sz a.1 ∧ Sz a.2) (fun a => Fq K (a.1 + a.2))
theorem ok_plus (T : G K mg C) (D_ratio : Dn P w K mg base 2 "ratio" ["top", "bottom"] (sp_ratio K C)) : Dn P w K mg base 3 "plus" ["one", "other"] (sp_plus K C) := by
  refine T.d_plus.ok sc_plus (by first | exact CtF.len (fun _ => rfl) | exact CtE.len (fun _ => rfl) | exact CtR.len (fun _ => rfl) | exact CtM.len (fun _ => rfl) | exact CtO.len (fun _ => rfl) | exact CtRO.len (fun _ => rfl) | exact CtX.len (fun _ => rfl) | exact CtMX.len (fun _ => rfl) | exact CtME.len (fun _ => rfl) | exact CtG.len (fun _ => rfl) | exact CtOX.len (fun _ => rfl) | exact CtV.len (fun _ => rfl) | exact spOr_len (by first | exact CtR.len (fun _ => rfl) | exact CtM.len (fun _ => rfl) | exact CtG.len (fun _ => rfl) | exact CtF.len (fun _ => rfl) | exact CtRO.len (fun _ => rfl)) (by first | exact CtRO.len (fun _ => rfl) | exact CtN.len (fun _ => rfl) | exact CtR.len (fun _ => rfl) | exact CtG.len (fun _ => rfl) | exact CtM.len (fun _ => rfl)) | exact sp_plus_len) (fun f cdv A outer s H vs Q E hr h => ?_)
  obtain ⟨⟨x, y⟩, F, sFH, ha, ⟨h1, h2⟩, hq⟩ := h
  have c := ctx_start (N := ["one", "other"]) sFH ha
  dsimp only at h1 h2 hq
  refine ⟨_, (pss_one (ps_ret (pe_d D_ratio (hr.mono (by decide)) (by rfl) (pa_cons (pe_op op_add (pe_op op_mulW (pe_ix (show IxR _ (rIxT K) from ix_tup) (pv 0) pe_int (fun _ _ => rfl)) (pe_ix (show IxR _ (rIxT K) from ix_tup) (pv 1) pe_int (fun _ _ => rfl))) (pe_op op_mulW (pe_ix (show IxR _ (rIxT K) from ix_tup) (pv 1) pe_int (fun _ _ => rfl)) (pe_ix (show IxR _ (rIxT K) from ix_tup) (pv 0) pe_int (fun _ _ => rfl)))) (pa_cons (pe_op op_mulW (pe_ix (show IxR _ (rIxT K) from ix_tup) (pv 0) pe_int (fun _ _ => rfl)) (pe_ix (show IxR _ (rIxT K) from ix_tup) (pv 1) pe_int (fun _ _ => rfl))) pa_nil))))), ?_⟩
  rw [← r_add] at hq
  refine st_ret c (ev_callE (_, _) (ea_cons (ev_I0 (ev_I (ev_ixT (K := K) (ev_var rfl) ev_c rfl) (ev_ixT (K := K) (ev_var rfl) ev_c rfl) (by exact h1.1.mulW h2.2)) (ev_I (ev_ixT (K := K) (ev_var rfl) ev_c rfl) (ev_ixT (K := K) (ev_var rfl) ev_c rfl) (by exact h2.1.mulW h1.2))) (ea_cons (ev_I (ev_ixT (K := K) (ev_var rfl) ev_c rfl) (ev_ixT (K := K) (ev_var rfl) ev_c rfl) (by exact h1.2.mulW h2.2)) ea_nil)) (by exact (h1.2.mul h2.2).up (by decide)) (by exact Int.mul_ne_zero (r_den0 x) (r_den0 y))) (fun v F' H' c _ r => hq v F' H' c.ext c.sub r)
def sp_minus (K : PySem.W.Frag) (C : Str → Addr) : Sp := CtF (fun a : Rat × Rat => [Fq K a.1, Fq K a.2]) (fun a => Sz a.1 ∧ Sz a.2) (fun a => Fq K (a.1 - a.2))
theorem ok_minus (T : G K mg C) (D_ratio : Dn P w K mg base 2 "ratio" ["top", "bottom"] (sp_ratio K C)) : Dn P w K mg base 3 "minus" ["one", "other"] (sp_minus K C) := by
  refine T.d_minus.ok sc_minus (by first | exact CtF.len (fun _ => rfl) | exact CtE.len (fun _ => rfl) | exact CtR.len (fun _ => rfl) | exact CtM.len (fun _ => rfl) | exact CtO.len (fun _ => rfl) | exact CtRO.len (fun _ => rfl) | exact CtX.len (fun _ => rfl) | exact CtMX.len (fun _ => rfl) | exact CtME.len (fun _ => rfl) | exact CtG.len (fun _ => rfl) | exact CtOX.len (fun _ => rfl) | exact CtV.len (fun _ => rfl) | exact spOr_len (by first | exact CtR.len (fun _ => rfl) | exact CtM.len (fun _ => rfl) | exact CtG.len (fun _ => rfl) | exact CtF.len (fun _ => rfl) | exact CtRO.len (fun _ => rfl)) (by first | exact CtRO.len (fun _ => rfl) | exact CtN.len (fun _ => rfl) | exact CtR.len (fun _ => rfl) | exact CtG.len (fun _ => rfl) | exact CtM.len (fun _ => rfl)) | exact sp_minus_len) (fun f cdv A outer s H vs Q E hr h => ?_)
  obtain ⟨⟨x, y⟩, F, sFH, ha, ⟨h1, h2⟩, hq⟩ := h
  have c := ctx_start (N := ["one", "other"]) sFH ha
  dsimp only at h1 h2 hq
  refine ⟨_, (pss_one (ps_ret (pe_d D_ratio (hr.mono (by decide)) (by rfl) (pa_cons (pe_op op_sub (pe_op op_mulW (pe_ix (show IxR _ (rIxT K) from ix_tup) (pv 0) pe_int (fun _ _ => rfl)) (pe_ix (show IxR _ (rIxT K) from ix_tup) (pv 1) pe_int (fun _ _ => rfl))) (pe_op op_mulW (pe_ix (show IxR _ (rIxT K) from ix_tup) (pv 1) pe_int (fun _ _ => rfl)) (pe_ix (show IxR _ (rIxT K) from ix_tup) (pv 0) pe_int (fun _ _ => rfl)))) (pa_cons (pe_op op_mulW (pe_ix (show IxR _ (rIxT K) from ix_tup) (pv 0) pe_int (fun _ _ => rfl)) (pe_ix (show IxR _ (rIxT K) from ix_tup) (pv 1) pe_int (fun _ _ => rfl))) pa_nil))))), ?_⟩
  rw [← r_sub] at hq
  refine st_ret c (ev_callE (_, _) (ea_cons (ev_I0 (ev_I (ev_ixT (K := K) (ev_var rfl) ev_c rfl) (ev_ixT (K := K) (ev_var rfl) ev_c rfl) (by exact h1.1.mulW h2.2)) (ev_I (ev_ixT (K := K) (ev_var rfl) ev_c rfl) (ev_ixT (K := K) (ev_var rfl) ev_c rfl) (by exact h2.1.mulW h1.2))) (ea_cons (ev_I (ev_ixT (K := K) (ev_var rfl) ev_c rfl) (ev_ixT (K := K) (ev_var rfl) ev_c rfl) (by exact h1.2.mulW h2.2)) ea_nil)) (by exact (h1.2.mul h2.2).up (by decide)) (by exact Int.mul_ne_zero (r_den0 x) (r_den0 y))) (fun v F' H' c _ r => hq v F' H' c.ext c.sub r)
def sp_times (K : PySem.W.Frag) (C : Str → Addr) : Sp := CtF (fun a : Rat × Rat => [Fq K a.1, Fq K a.2]) (fun a => Sz a.1 ∧ Sz a.2) (fun a => Fq K (a.1 * a.2))
theorem ok_times (T : G K mg C) (D_ratio : Dn P w K mg base 2 "ratio" ["top", "bottom"] (sp_ratio K C)) : Dn P w K mg base 3 "times" ["one", "other"] (sp_times K C) := by
  refine T.d_times.ok sc_times (by first | exact CtF.len (fun _ => rfl) | exact CtE.len (fun _ => rfl) | exact CtR.len (fun _ => rfl) | exact CtM.len (fun _ => rfl) | exact CtO.len (fun _ => rfl) | exact CtRO.len (fun _ => rfl) | exact CtX.len (fun _ => rfl) | exact CtMX.len (fun _ => rfl) | exact CtME.len (fun _ => rfl) | exact CtG.len (fun _ => rfl) | exact CtOX.len (fun _ => rfl) | exact CtV.len (fun _ => rfl) | exact spOr_len (by first | exact CtR.len (fun _ => rfl) | exact CtM.len (fun _ => rfl) | exact CtG.len (fun _ => rfl) | exact CtF.len (fun _ => rfl) | exact CtRO.len (fun _ => rfl)) (by first | exact CtRO.len (fun _ => rfl) | exact CtN.len (fun _ => rfl) | exact CtR.len (fun _ => rfl) | exact CtG.len (fun _ => rfl) | exact CtM.len (fun _ => rfl)) | exact sp_times_len) (fun f cdv A outer s H vs Q E hr h => ?_)
  obtain ⟨⟨x, y⟩, F, sFH, ha, ⟨h1, h2⟩, hq⟩ := h
  have c := ctx_start (N := ["one", "other"]) sFH ha
  dsimp only at h1 h2 hq
  refine ⟨_, (pss_one (ps_ret (pe_d D_ratio (hr.mono (by decide)) (by rfl) (pa_cons (pe_op op_mulW (pe_ix (show IxR _ (rIxT K) from ix_tup) (pv 0) pe_int (fun _ _ => rfl)) (pe_ix (show IxR _ (rIxT K) from ix_tup) (pv 1) pe_int (fun _ _ => rfl))) (pa_cons (pe_op op_mulW (pe_ix (show IxR _ (rIxT K) from ix_tup) (pv 0) pe_int (fun _ _ => rfl)) (pe_ix (show IxR _ (rIxT K) from ix_tup) (pv 1) pe_int (fun _ _ => rfl))) pa_nil))))), ?_⟩
  rw [← r_mul] at hq
  refine st_ret c (ev_callE (_, _) (ea_cons (ev_I (ev_ixT (K := K) (ev_var rfl) ev_c rfl) (ev_ixT (K := K) (ev_var rfl) ev_c rfl) (by exact h1.1.mulW h2.1)) (ea_cons (ev_I (ev_ixT (K := K) (ev_var rfl) ev_c rfl) (ev_ixT (K := K) (ev_var rfl) ev_c rfl) (by exact h1.2.mulW h2.2)) ea_nil)) (by exact (h1.2.mul h2.2).up (by decide)) (by exact Int.mul_ne_zero (r_den0 x) (r_den0 y))) (fun v F' H' c _ r => hq v F' H' c.ext c.sub r)
def sp_over (K : PySem.W.Frag) (C : Str → Addr) : Sp := CtE (fun a : Rat × Rat => [Fq K a.1, Fq K a.2]) (fun a => Sz a.1 ∧ Sz a.2) (fun a => Fq K (a.1 / a.2)) (fun a => a.2 ≠ 0) (C "NoRatio")
theorem ok_over (T : G K mg C) (D_ratio : Dn P w K mg base 2 "ratio" ["top", "bottom"] (sp_ratio K C)) : Dn P w K mg base 3 "over" ["one", "other"] (sp_over K C) := by
  refine T.d_over.okX sc_over (by first | exact CtF.len (fun _ => rfl) | exact CtE.len (fun _ => rfl) | exact CtR.len (fun _ => rfl) | exact CtM.len (fun _ => rfl) | exact CtO.len (fun _ => rfl) | exact CtRO.len (fun _ => rfl) | exact CtX.len (fun _ => rfl) | exact CtMX.len (fun _ => rfl) | exact CtME.len (fun _ => rfl) | exact CtG.len (fun _ => rfl) | exact CtOX.len (fun _ => rfl) | exact CtV.len (fun _ => rfl) | exact spOr_len (by first | exact CtR.len (fun _ => rfl) | exact CtM.len (fun _ => rfl) | exact CtG.len (fun _ => rfl) | exact CtF.len (fun _ => rfl) | exact CtRO.len (fun _ => rfl)) (by first | exact CtRO.len (fun _ => rfl) | exact CtN.len (fun _ => rfl) | exact CtR.len (fun _ => rfl) | exact CtG.len (fun _ => rfl) | exact CtM.len (fun _ => rfl)) | exact sp_over_len) (fun f cdv A outer s H vs Q E hr h => ?_)
  obtain ⟨⟨x, y⟩, F, sFH, ha, ⟨h1, h2⟩, hq, hx⟩ := h
  have c := ctx_start (N := ["one", "other"]) sFH ha
  dsimp only at h1 h2 hq hx
  refine ⟨_, (pss_one (ps_ret (pe_dS (L2N.takes_of rfl rfl rfl rfl) D_ratio (hr.mono (by decide)) (by rfl) (pa_cons (pe_op op_mulW (pe_ix (show IxR _ (rIxT K) from ix_tup) (pv 0) pe_int (fun _ _ => rfl)) (pe_ix (show IxR _ (rIxT K) from ix_tup) (pv 1) pe_int (fun _ _ => rfl))) (pa_cons (pe_op op_mulW (pe_ix (show IxR _ (rIxT K) from ix_tup) (pv 0) pe_int (fun _ _ => rfl)) (pe_ix (show IxR _ (rIxT K) from ix_tup) (pv 1) pe_int (fun _ _ => rfl))) pa_nil))))), ?_⟩
  rw [← r_div] at hq
  refine st_retE (_, _) c (ea_cons (ev_I (ev_ixT (K := K) (ev_var rfl) ev_c rfl) (ev_ixT (K := K) (ev_var rfl) ev_c rfl) (by exact h1.1.mulW h2.2)) (ea_cons (ev_I (ev_ixT (K := K) (ev_var rfl) ev_c rfl) (ev_ixT (K := K) (ev_var rfl) ev_c rfl) (by exact h1.2.mulW h2.1)) ea_nil)) (by exact (h1.2.mul h2.1).up (by decide)) (fun g v F' H' c _ r => hq (fun z => g (by rw [z]; exact Int.mul_zero _)) v F' H' c.ext c.sub r) (fun g F' H' c _ => hx (fun z => g (Int.mul_ne_zero (r_den0 x) (fun e => z (Rat.num_eq_zero.mp e)))) F' H' c.ext c.sub)
def sp_under (K : PySem.W.Frag) (C : Str → Addr) : Sp := CtF (fun a : Rat × Rat => [Fq K a.1, Fq K a.2]) (fun a => Sz a.1 ∧ Sz a.2) (fun a => B (decide (a.1 < a.2)))
theorem ok_under (T : G K mg C)  : Dn P w K mg base 1 "under" ["one", "other"] (sp_under K C) := by
  refine T.d_under.ok sc_under (by first | exact CtF.len (fun _ => rfl) | exact CtE.len (fun _ => rfl) | exact CtR.len (fun _ => rfl) | exact CtM.len (fun _ => rfl) | exact CtO.len (fun _ => rfl) | exact CtRO.len (fun _ => rfl) | exact CtX.len (fun _ => rfl) | exact CtMX.len (fun _ => rfl) | exact CtME.len (fun _ => rfl) | exact CtG.len (fun _ => rfl) | exact CtOX.len (fun _ => rfl) | exact CtV.len (fun _ => rfl) | exact spOr_len (by first | exact CtR.len (fun _ => rfl) | exact CtM.len (fun _ => rfl) | exact CtG.len (fun _ => rfl) | exact CtF.len (fun _ => rfl) | exact CtRO.len (fun _ => rfl)) (by first | exact CtRO.len (fun _ => rfl) | exact CtN.len (fun _ => rfl) | exact CtR.len (fun _ => rfl) | exact CtG.len (fun _ => rfl) | exact CtM.len (fun _ => rfl)) | exact sp_under_len) (fun f cdv A outer s H vs Q E hr h => ?_)
  obtain ⟨⟨x, y⟩, F, sFH, ha, ⟨h1, h2⟩, hq⟩ := h
  have c := ctx_start (N := ["one", "other"]) sFH ha
  dsimp only at h1 h2 hq
  refine ⟨_, (pss_one (ps_ret (pe_cmpR op_lt (pe_op op_mulW (pe_ix (show IxR _ (rIxT K) from ix_tup) (pv 0) pe_int (fun _ _ => rfl)) (pe_ix (show IxR _ (rIxT K) from ix_tup) (pv 1) pe_int (fun _ _ => rfl))) (pe_op op_mulW (pe_ix (show IxR _ (rIxT K) from ix_tup) (pv 1) pe_int (fun _ _ => rfl)) (pe_ix (show IxR _ (rIxT K) from ix_tup) (pv 0) pe_int (fun _ _ => rfl))) (nomark _)))), ?_⟩
  rw [← r_lt] at hq
  refine st_ret c (ev_I0 (ev_I (ev_ixT (K := K) (ev_var rfl) ev_c rfl) (ev_ixT (K := K) (ev_var rfl) ev_c rfl) (by exact h1.1.mulW h2.2)) (ev_I (ev_ixT (K := K) (ev_var rfl) ev_c rfl) (ev_ixT (K := K) (ev_var rfl) ev_c rfl) (by exact h2.1.mulW h1.2))) (fun v F' H' c _ r => hq v F' H' c.ext c.sub r)
def sp_greater (K : PySem.W.Frag) (C : Str → Addr) : Sp := CtF (fun a : Rat × Rat => [Fq K a.1, Fq K a.2]) (fun a => Sz a.1 ∧ Sz a.2) (fun a => Fq K (if a.1 < a.2 then a.2 else a.1))
theorem ok_greater (T : G K mg C) (D_under : Dn P w K mg base 1 "under" ["one", "other"] (sp_under K C)) : Dn P w K mg base 2 "greater" ["one", "other"] (sp_greater K C) := by
  refine T.d_greater.ok sc_greater (by first | exact CtF.len (fun _ => rfl) | exact CtE.len (fun _ => rfl) | exact CtR.len (fun _ => rfl) | exact CtM.len (fun _ => rfl) | exact CtO.len (fun _ => rfl) | exact CtRO.len (fun _ => rfl) | exact CtX.len (fun _ => rfl) | exact CtMX.len (fun _ => rfl) | exact CtME.len (fun _ => rfl) | exact CtG.len (fun _ => rfl) | exact CtOX.len (fun _ => rfl) | exact CtV.len (fun _ => rfl) | exact spOr_len (by first | exact CtR.len (fun _ => rfl) | exact CtM.len (fun _ => rfl) | exact CtG.len (fun _ => rfl) | exact CtF.len (fun _ => rfl) | exact CtRO.len (fun _ => rfl)) (by first | exact CtRO.len (fun _ => rfl) | exact CtN.len (fun _ => rfl) | exact CtR.len (fun _ => rfl) | exact CtG.len (fun _ => rfl) | exact CtM.len (fun _ => rfl)) | exact sp_greater_len) (fun f cdv A outer s H vs Q E hr h => ?_)
  obtain ⟨⟨x, y⟩, F, sFH, ha, ⟨h1, h2⟩, hq⟩ := h
  have c := ctx_start (N := ["one", "other"]) sFH ha
  dsimp only at h1 h2 hq
  refine ⟨_, (pss_cons (ps_if (pt_val (pe_d D_under (hr.mono (by decide)) (by rfl) (pa_cons (pv 0) (pa_cons (pv 1) pa_nil))))
      (pss_one (ps_ret (pv 1)))
      pss_nil)
    (pss_one (ps_ret (pv 0)))), ?_⟩
  refine sq (st_if c (et_B (ev_call (_, _) (ea_cons (ev_var rfl) (ea_cons (ev_var rfl) ea_nil)) (by exact ⟨h1, h2⟩))) (fun hb F H c _ => ?_) (fun hb F H c _ => ?_))
  · have hk : x < y := by simpa using hb
    rw [if_pos hk] at hq
    exact st_ret c (ev_var rfl) (fun v F' H' c _ r => hq v F' H' c.ext c.sub r)
  · have hk : ¬ x < y := by simpa using hb
    rw [if_neg hk] at hq
    exact nxt (st_ret c (ev_var rfl) (fun v F' H' c _ r => hq v F' H' c.ext c.sub r))
def t00 : Td := ⟨0, 0, 0, [], []⟩
def sp_Tide___init__ (K : PySem.W.Frag) (C : Str → Addr) : Sp := CtG (fun b : Unit × Addr × Addr => [Rf b.2.1]) (fun b => [(b.2.1, oI (C "Tide") b.2.2 [])]) (fun _ => True) (fun _ (_ : Addr) => True) (fun _ _ => Nn) (fun b d => [(d, oD []), (b.2.1, oI (C "Tide") b.2.2 (tF K t00 d))])
theorem ok_Tide___init__ (T : G K mg C)  : Di P w K mg base 1 (C "Tide") ["self"] [] (sp_Tide___init__ K C) := by
  refine T.d_Tide___init__.ok sc_Tide___init__ (by first | exact CtF.len (fun _ => rfl) | exact CtE.len (fun _ => rfl) | exact CtR.len (fun _ => rfl) | exact CtM.len (fun _ => rfl) | exact CtO.len (fun _ => rfl) | exact CtRO.len (fun _ => rfl) | exact CtX.len (fun _ => rfl) | exact CtMX.len (fun _ => rfl) | exact CtME.len (fun _ => rfl) | exact CtG.len (fun _ => rfl) | exact CtOX.len (fun _ => rfl) | exact CtV.len (fun _ => rfl) | exact spOr_len (by first | exact CtR.len (fun _ => rfl) | exact CtM.len (fun _ => rfl) | exact CtG.len (fun _ => rfl) | exact CtF.len (fun _ => rfl) | exact CtRO.len (fun _ => rfl)) (by first | exact CtRO.len (fun _ => rfl) | exact CtN.len (fun _ => rfl) | exact CtR.len (fun _ => rfl) | exact CtG.len (fun _ => rfl) | exact CtM.len (fun _ => rfl)) | exact sp_Tide___init___len) (fun f cdv A outer s H vs Q E hr h => ?_)
  obtain ⟨⟨⟨⟩, p, dx⟩, F, sFH, ha, ho, nd, hp, hq⟩ := h
  have c := ctx_startM (N := ["self"]) sFH ha ho nd
  dsimp only at hq
  refine ⟨_, (pss_cons (ps_fld (pv 0) (pe_tup (pa_cons pe_int (pa_cons pe_int pa_nil))) rfl)
    (pss_cons (ps_fld (pv 0) (pe_tup (pa_cons pe_int (pa_cons pe_int pa_nil))) rfl)
    (pss_cons (ps_fld (pv 0) pe_int rfl)
    (pss_cons (ps_fld (pv 0) (pe_lst pa_nil) rfl)
    (pss_one (ps_fld (pv 0) pe_dnewK rfl)))))), ?_⟩
  refine sq (st_fld (j := 0) c (ev_frI (K := K) (ea_cons ev_c (ea_cons ev_c ea_nil))) (ev_var rfl) rfl T.c_Tide.cl T.n_Tide_moment (show 0 < 1000 by decide) (fun F H c _ => ?_))
  refine sq (st_fld (j := 0) c (ev_frI (K := K) (ea_cons ev_c (ea_cons ev_c ea_nil))) (ev_var rfl) rfl T.c_Tide.cl T.n_Tide_height (show 1 < 1000 by decide) (fun F H c _ => ?_))
  refine sq (st_fld (j := 0) c ev_c (ev_var rfl) rfl T.c_Tide.cl T.n_Tide_many (show 2 < 1000 by decide) (fun F H c _ => ?_))
  refine sq (st_fld (j := 0) c (ev_ls2 (ev_lst (K := K) ea_nil) (by walk_at "ls")) (ev_var rfl) rfl T.c_Tide.cl T.n_Tide_flowing (show 3 < 1000 by decide) (fun F H c _ => ?_))
  refine st_fldO (j := 0) c eo_dnew (fun q => ev_var rfl) rfl T.c_Tide.cl T.n_Tide_ends (show 4 < 1000 by decide) (fun q F' H' c _ hzq => ?_) (.inl List.mem_cons_self)
  refine hq q .non F' H' trivial c.ext c.sub rfl c.own c.nd (fun x hx => ?_)
  rcases List.mem_cons.mp hx with z | z
  · rw [z]; exact .inr hzq
  · exact .inl z
def sp_Tide_heads (K : PySem.W.Frag) (C : Str → Addr) : Sp := CtR (fun a : (Addr × Addr × Addr) × Td => [Rf a.1.1]) (fun a => [tO C K a.1.1 a.1.2.1 a.1.2.2 a.2]) (fun a => (∀ e ∈ a.2.fl, Sz e.1 ∧ Sz e.2.1) ∧ Sz a.2.he ∧ a.2.fl.length ≤ 1000) (fun a => Ls K ((hds a.2).map (HdA K)))
theorem ok_Tide_heads (T : G K mg C) (D_under : Dn P w K mg base 1 "under" ["one", "other"] (sp_under K C)) : Dm P w K mg base 2 (C "Tide") "heads" ["self"] (sp_Tide_heads K C) := by
  refine T.d_Tide_heads.ok sc_Tide_heads (by first | exact CtF.len (fun _ => rfl) | exact CtE.len (fun _ => rfl) | exact CtR.len (fun _ => rfl) | exact CtM.len (fun _ => rfl) | exact CtO.len (fun _ => rfl) | exact CtRO.len (fun _ => rfl) | exact CtX.len (fun _ => rfl) | exact CtMX.len (fun _ => rfl) | exact CtME.len (fun _ => rfl) | exact CtG.len (fun _ => rfl) | exact CtOX.len (fun _ => rfl) | exact CtV.len (fun _ => rfl) | exact spOr_len (by first | exact CtR.len (fun _ => rfl) | exact CtM.len (fun _ => rfl) | exact CtG.len (fun _ => rfl) | exact CtF.len (fun _ => rfl) | exact CtRO.len (fun _ => rfl)) (by first | exact CtRO.len (fun _ => rfl) | exact CtN.len (fun _ => rfl) | exact CtR.len (fun _ => rfl) | exact CtG.len (fun _ => rfl) | exact CtM.len (fun _ => rfl)) | exact sp_Tide_heads_len) (fun f cdv A outer s H vs Q E hr h => ?_)
  obtain ⟨⟨⟨p, dx, d⟩, t⟩, F, sFH, ha, ho, nd, ⟨hz, hh, hl⟩, hq⟩ := h
  have c := ctx_startR (N := ["self", "found", "begin", "end", "share", "place"]) sFH ha ho nd
  dsimp only at hz hh hl hq
  refine ⟨_, (pss_cons (ps_set (i := 1) sc_Tide_heads.nd rfl (by first | exact Or.inl rfl | exact Or.inr rfl) (pe_lst pa_nil))
    (pss_cons (ps_for PassesOwn.never rfl (pi_list (pe_fld (pv 0) rfl)) (show PG _ _ (gTup K 4 _) from pg_tup rfl (pgs_cons (pg_name (i := 2) sc_Tide_heads.nd rfl (by first | exact Or.inl rfl | exact Or.inr rfl)) (pgs_cons (pg_name (i := 3) sc_Tide_heads.nd rfl (by first | exact Or.inl rfl | exact Or.inr rfl)) (pgs_cons (pg_name (i := 4) sc_Tide_heads.nd rfl (by first | exact Or.inl rfl | exact Or.inr rfl)) (pgs_cons (pg_name (i := 5) sc_Tide_heads.nd rfl (by first | exact Or.inl rfl | exact Or.inr rfl)) pgs_nil)))))
      (pss_one (ps_if (PW.pt (pw_and (pt_not (pt_val (pe_d D_under (hr.mono (by decide)) (by rfl) (pa_cons (pe_fld (pv 0) rfl) (pa_cons (pv 2) pa_nil))))) (pw_and1 (pt_val (pe_d D_under (hr.mono (by decide)) (by rfl) (pa_cons (pe_fld (pv 0) rfl) (pa_cons (pv 3) pa_nil)))))))
        (pss_one (ps_expr (pe_bm PySem.F.plainAttrs_list PySem.F.slot_list_append PySem.F.type_list_append mt_append (pv 1) (pa_cons (pe_tup (pa_cons (pv 3) (pa_cons (pv 4) (pa_cons (pv 5) pa_nil)))) pa_nil))))
        pss_nil)))
    (pss_one (ps_ret (pv 1))))), ?_⟩
  refine sq (st_nilW c (fun q F H σ c _ hzq => ?_))
  refine sq (st_forS (xs := t.fl) (f := FeA K) (fun i : List Fe × Option As × Option As × Option As × Option As => [some (Rf p), some (Rf q), i.2.1, i.2.2.1, i.2.2.2.1, i.2.2.2.2]) (fun y i => [some (Rf p), some (Rf q), some (Fq K y.1), some (Fq K y.2.1), some (I y.2.2.1), some (I y.2.2.2)]) (fun i => [(q, oL (i.1.map (HdA K))), tO C K p dx d t]) (fun j i => i.1 = (t.fl.take j).filter (isHd t.he)) ([], none, none, none, none) c (src_l (ev_fld (K := K) (j := 1) (ev_var rfl) rfl T.c_Tide.cl T.n_Tide_flowing rfl)) rfl (fun x i => gt_tup (gts_cons gt_name (gts_cons gt_name (gts_cons gt_name (gts_cons gt_name gts_nil))))) ?_ ?_)
  · rintro j ⟨b, e, s, pl⟩ ⟨acc, o1, o2, o3, o4⟩ G1 F H σ M hk ea c hM
    dsimp only at ea c
    obtain ⟨z1, z2⟩ := hz _ (List.mem_of_getElem? hk)
    dsimp only at z1 z2
    have hjl := (List.getElem?_eq_some_iff.mp hk).1
    have hal : acc.length ≤ 1000 := by
      rw [ea]
      have h1 := List.length_filter_le (isHd t.he) (t.fl.take j)
      rw [List.length_take] at h1
      omega
    have et : (t.fl.take (j + 1)).filter (isHd t.he) = acc ++ if isHd t.he (b, e, s, pl) then [(b, e, s, pl)] else [] := by
      rw [List.take_succ, hk, List.filter_append, ← ea]
      congr 1
      show List.filter _ [(b, e, s, pl)] = _
      rw [List.filter_cons]
      split <;> rfl
    refine st_if c (et_and (et_not (et_B (ev_call (_, _) (ea_cons (ev_fld (K := K) (j := 1) (ev_var rfl) rfl T.c_Tide.cl T.n_Tide_height rfl) (ea_cons (ev_var rfl) ea_nil)) (by exact ⟨hh, z1⟩)))) (fun hb => (et_B (ev_call (_, _) (ea_cons (ev_fld (K := K) (j := 1) (ev_var rfl) rfl T.c_Tide.cl T.n_Tide_height rfl) (ea_cons (ev_var rfl) ea_nil)) (by exact ⟨hh, z2⟩))))) (fun hb F H c _ => ?_) (fun hb F H c _ => ?_)
    · have hb : isHd t.he (b, e, s, pl) = true := hb
      rw [if_pos hb] at et
      refine st_appW (R := HdA K (b, e, s, pl)) (j := 0) c (ev_var rfl) rfl (ev_tup (K := K) (ea_cons (ev_var rfl) (ea_cons (ev_var rfl) (ea_cons (ev_var rfl) ea_nil))) (show 3 ≤ 1000 by decide)) (by rw [List.length_map]; omega) (fun F H c _ => ?_) (.inr hzq)
      refine hM (acc ++ [(b, e, s, pl)], some (Fq K b), some (Fq K e), some (I s), some (I pl)) F H _ et.symm ?_
      dsimp only
      rw [List.map_append]
      exact c
    · have hb : ¬ isHd t.he (b, e, s, pl) = true := by
        intro z
        rw [show isHd t.he (b, e, s, pl) = false from hb] at z
        cases z
      rw [if_neg hb, List.append_nil] at et
      exact nxt (hM (acc, some (Fq K b), some (Fq K e), some (I s), some (I pl)) F H _ et.symm c)
  · rintro ⟨acc, o1, o2, o3, o4⟩ F H σ ea c
    dsimp only at ea
    rw [List.take_length] at ea
    have eh : acc = hds t := by unfold hds; exact ea
    subst eh
    exact st_retLW (j := 0) (K := K) c (ev_var rfl) rfl rdL (fun v F' H' c _ r => hq v F' H' c.ext c.sub r) hzq
def sp_Tide_goes (K : PySem.W.Frag) (C : Str → Addr) : Sp := CtG (fun a : (Addr × Addr × Addr) × (Nat × Nat) × Td × Option Rat => [Rf a.1.1, Op (Fq K) a.2.2.2]) (fun a => [tO C K a.1.1 a.1.2.1 a.1.2.2 a.2.2.1]) (fun a => LmZ a.2.1.1 a.2.1.2 a.2.2.1 a.2.2.2) (fun _ (_ : Addr) => True) (fun a d => Op (fun s => SrR K (d, s)) (goR a.2.2.1 a.2.2.2)) (fun a d => tO C K a.1.1 a.1.2.1 a.1.2.2 (goT a.2.2.1 a.2.2.2) :: (goR a.2.2.1 a.2.2.2).toList.map fun s => prO K (d, s))
theorem ok_Tide_goes (T : G K mg C) (D_Tide_heads : Dm P w K mg base 2 (C "Tide") "heads" ["self"] (sp_Tide_heads K C)) (D_under : Dn P w K mg base 1 "under" ["one", "other"] (sp_under K C)) (D_minus : Dn P w K mg base 3 "minus" ["one", "other"] (sp_minus K C)) (D_times : Dn P w K mg base 3 "times" ["one", "other"] (sp_times K C)) (D_plus : Dn P w K mg base 3 "plus" ["one", "other"] (sp_plus K C)) (D_over : Dn P w K mg base 3 "over" ["one", "other"] (sp_over K C)) (D_ratio : Dn P w K mg base 2 "ratio" ["top", "bottom"] (sp_ratio K C)) : Dm P w K mg base 4 (C "Tide") "goes" ["self", "limit"] (sp_Tide_goes K C) := by
  refine T.d_Tide_goes.ok sc_Tide_goes (by first | exact CtF.len (fun _ => rfl) | exact CtE.len (fun _ => rfl) | exact CtR.len (fun _ => rfl) | exact CtM.len (fun _ => rfl) | exact CtO.len (fun _ => rfl) | exact CtRO.len (fun _ => rfl) | exact CtX.len (fun _ => rfl) | exact CtMX.len (fun _ => rfl) | exact CtME.len (fun _ => rfl) | exact CtG.len (fun _ => rfl) | exact CtOX.len (fun _ => rfl) | exact CtV.len (fun _ => rfl) | exact spOr_len (by first | exact CtR.len (fun _ => rfl) | exact CtM.len (fun _ => rfl) | exact CtG.len (fun _ => rfl) | exact CtF.len (fun _ => rfl) | exact CtRO.len (fun _ => rfl)) (by first | exact CtRO.len (fun _ => rfl) | exact CtN.len (fun _ => rfl) | exact CtR.len (fun _ => rfl) | exact CtG.len (fun _ => rfl) | exact CtM.len (fun _ => rfl)) | exact sp_Tide_goes_len) (fun f cdv A outer s H vs Q E hr h => ?_)
  obtain ⟨⟨⟨p, dx, d⟩, ⟨n, m⟩, t, lim⟩, F, sFH, ha, ho, nd, hl, hq⟩ := h
  have c := ctx_startM (N := ["self", "limit", "heads", "start", "whole", "tag", "share", "place", "nearest", "reach"]) sFH ha ho nd
  dsimp only at hl hq
  refine ⟨_, (pss_cons (ps_set (i := 2) sc_Tide_goes.nd rfl (by first | exact Or.inl rfl | exact Or.inr rfl) (pe_dm0 (pv 0) T.c_Tide.cl D_Tide_heads (hr.mono (by decide))))
    (pss_cons (ps_set (i := 3) sc_Tide_goes.nd rfl (by first | exact Or.inl rfl | exact Or.inr rfl) (pe_fld (pv 0) rfl))
    (pss_cons (ps_if (pt_cmpR (op_eqD hr.units) (pv 2) (pe_lst pa_nil) (nomark _))
      (pss_cons (ps_fld (pv 0) (pv 1) rfl)
      (pss_one (ps_ret pe_non)))
      pss_nil)
    (pss_cons (ps_set (i := 4) sc_Tide_goes.nd rfl (by first | exact Or.inl rfl | exact Or.inr rfl) (pe_callB (cr_sum rfl) (by rfl) T.b_sum (by decide +kernel) (pa_cons (by exact (pe_lc (own := [("tag", 5), ("share", 6), ("place", 7)]) rfl sc_Tide_goes.nd (pi_list (pv 2)) (blkOk_by (N := ["self", "limit", "heads", "start", "whole", "tag", "share", "place", "nearest", "reach"]) (sc := defScope s_Tide_goes) (by decide +kernel)) (fun _ _ _ _ _ => (show PG _ _ (gTup K 3 _) from pg_tup rfl (pgs_cons (pg_name (i := 5) sc_Tide_goes.nd rfl (by first | exact Or.inl rfl | exact Or.inr rfl)) (pgs_cons (pg_name (i := 6) sc_Tide_goes.nd rfl (by first | exact Or.inl rfl | exact Or.inr rfl)) (pgs_cons (pg_name (i := 7) sc_Tide_goes.nd rfl (by first | exact Or.inl rfl | exact Or.inr rfl)) pgs_nil))))) (fun _ _ _ _ _ => pts_nil) (fun _ _ _ _ _ => (pv 6)))) pa_nil)))
    (pss_cons (ps_set (i := 8) sc_Tide_goes.nd rfl (by first | exact Or.inl rfl | exact Or.inr rfl) (pe_ix (show IxR _ (rIxT K) from ix_tup) (pe_ix (show IxR _ (rIxL K) from ix_list) (pv 2) pe_int (fun _ _ => rfl)) pe_int (fun _ _ => rfl)))
    (pss_cons (ps_for PassesOwn.never rfl (pi_list (pv 2)) (show PG _ _ (gTup K 3 _) from pg_tup rfl (pgs_cons (pg_name (i := 5) sc_Tide_goes.nd rfl (by first | exact Or.inl rfl | exact Or.inr rfl)) (pgs_cons (pg_name (i := 6) sc_Tide_goes.nd rfl (by first | exact Or.inl rfl | exact Or.inr rfl)) (pgs_cons (pg_name (i := 7) sc_Tide_goes.nd rfl (by first | exact Or.inl rfl | exact Or.inr rfl)) pgs_nil))))
      (pss_one (ps_if (pt_val (pe_d D_under (hr.mono (by decide)) (by rfl) (pa_cons (pv 5) (pa_cons (pv 8) pa_nil))))
        (pss_one (ps_set (i := 8) sc_Tide_goes.nd rfl (by first | exact Or.inl rfl | exact Or.inr rfl) (pv 5)))
        pss_nil)))
    (pss_cons (ps_set (i := 9) sc_Tide_goes.nd rfl (by first | exact Or.inl rfl | exact Or.inr rfl) (pe_d D_plus (hr.mono (by decide)) (by rfl) (pa_cons (pv 3) (pa_cons (pe_d D_times (hr.mono (by decide)) (by rfl) (pa_cons (pe_d D_minus (hr.mono (by decide)) (by rfl) (pa_cons (pv 8) (pa_cons (pe_fld (pv 0) rfl) pa_nil))) (pa_cons (pe_tup (pa_cons (pv 4) (pa_cons pe_int pa_nil))) pa_nil))) pa_nil))))
    (pss_cut (ps_if (PW.pt (pw_and (pt_cmpR op_notN (pv 1) pe_non (nomark _)) (pw_and1 (pt_val (pe_d D_under (hr.mono (by decide)) (by rfl) (pa_cons (pv 1) (pa_cons (pv 9) pa_nil)))))))
      (pss_cons (ps_fld (pv 0) (pe_d D_plus (hr.mono (by decide)) (by rfl) (pa_cons (pe_fld (pv 0) rfl) (pa_cons (pe_d D_over (hr.mono (by decide)) (by rfl) (pa_cons (pe_d D_minus (hr.mono (by decide)) (by rfl) (pa_cons (pv 1) (pa_cons (pv 3) pa_nil))) (pa_cons (pe_tup (pa_cons (pv 4) (pa_cons pe_int pa_nil))) pa_nil))) pa_nil))) rfl)
      (pss_one (ps_fld (pv 0) (pv 1) rfl)))
      (pss_cons (ps_fld (pv 0) (pv 8) rfl)
      (pss_one (ps_fld (pv 0) (pv 9) rfl))))
    (pss_one (ps_ret (pe_tup (pa_cons (pv 3) (pa_cons (pe_fld (pv 0) rfl) (pa_cons (by exact (pe_lc (own := [("tag", 5), ("share", 6), ("place", 7)]) rfl sc_Tide_goes.nd (pi_list (pv 2)) (blkOk_by (N := ["self", "limit", "heads", "start", "whole", "tag", "share", "place", "nearest", "reach"]) (sc := defScope s_Tide_goes) (by decide +kernel)) (fun _ _ _ _ _ => (show PG _ _ (gTup K 3 _) from pg_tup rfl (pgs_cons (pg_name (i := 5) sc_Tide_goes.nd rfl (by first | exact Or.inl rfl | exact Or.inr rfl)) (pgs_cons (pg_name (i := 6) sc_Tide_goes.nd rfl (by first | exact Or.inl rfl | exact Or.inr rfl)) (pgs_cons (pg_name (i := 7) sc_Tide_goes.nd rfl (by first | exact Or.inl rfl | exact Or.inr rfl)) pgs_nil))))) (fun _ _ _ _ _ => pts_nil) (fun _ _ _ _ _ => (pe_tup (pa_cons (pv 7) (pa_cons (pe_d D_ratio (hr.mono (by decide)) (by rfl) (pa_cons (pv 6) (pa_cons (pv 4) pa_nil))) pa_nil)))))) pa_nil)))))))))))))), ?_⟩
  have hn := hl.n
  have hm := hl.m
  obtain ⟨z1, z2, z3, z4⟩ := hl.z.fz (by omega) hm
  have ln := hl.z.ln
  refine sq (st_set c (ev_meth (j := 0) ((_, _, _), _) (ev_var rfl) rfl rfl ea_nil rfl (by walk_at "sub") (by exact ⟨z1, z3, by show t.fl.length ≤ 1000; omega⟩)) (fun F H σ c _ => ?_))
  refine sq (st_set c (ev_fld (K := K) (j := 0) (ev_var rfl) rfl T.c_Tide.cl T.n_Tide_moment rfl) (fun F H σ c _ => ?_))
  refine sq (st_if c (et_test (ev_cmpNilD false (hd_is (K := K)) hd_gd (lk (ev_var rfl)))) (fun hb F H c _ => ?_) (fun hb F H c _ => ?_))
  · have he : hds t = [] := by
      have : (hds t).isEmpty = true := hb
      exact List.isEmpty_iff.mp this
    cases lim with
    | none => exact absurd rfl (hl.ne he)
    | some L =>
      have e1 : goT t (some L) = { t with mo := L } := by unfold goT; rw [if_pos he]; rfl
      have e2 : goR t (some L) = none := by unfold goR; rw [if_pos he]
      rw [e1, e2] at hq
      refine sq (st_fld (R := Fq K L) (j := 0) c (ev_var rfl) (ev_var rfl) rfl T.c_Tide.cl T.n_Tide_moment (show 5 < 1000 by decide) (fun F H c _ => ?_))
      exact st_ret c ev_c (fun v F' H' c _ r => hq 0 v F' H' trivial c.ext c.sub r c.own c.nd (loc_new c rfl))
  have hne : hds t ≠ [] := by
    have : (hds t).isEmpty = false := hb
    intro z
    rw [z] at this
    cases this
  refine nxt ?_
  have f := hl.z.flw hm hne
  have g := hl.z.gz (by omega) hm hne
  have hhl : (hds t).length ≤ 63 := by
    have : (hds t).length ≤ t.fl.length := by unfold hds; exact List.length_filter_le ..
    omega
  have hze : ∀ e ∈ hds t, Sz e.2.1 := fun e he => (z1 e (mem_hds.mp he).1).2
  have hnr : nearH (hds t) = (hds t).foldl nrS (((hds t).head?.map (·.2.1)).getD 0) := by unfold nearH; rfl
  have hwh : ((hds t).map fun e => e.2.2.1).sum = whS (hds t) := by unfold whS; rfl
  have w1 := f.w1
  have wsz := g.w
  have gre := g.re
  have ere : reach t = t.mo + (nearH (hds t) - t.he) * (whS (hds t) : Rat) := by unfold reach; rfl
  obtain ⟨hs, ehs⟩ : ∃ hs, hds t = hs := ⟨_, rfl⟩
  obtain ⟨wh, ewh⟩ : ∃ wh, whS hs = wh := ⟨_, rfl⟩
  have gd := g.d
  have gp := g.p
  have gn := g.nr
  rw [ehs] at c hne hhl hze hnr hwh w1 wsz ere gd gp gn
  rw [ewh] at hwh w1 wsz ere gp
  refine sq (st_set (R := I wh) c (ev_is (ev_cb (ea_cons (ev_lcSA (K := K) _ _ (src_l (ev_var rfl)) (fun x => (gt_tup (gts_cons gt_name (gts_cons gt_name (gts_cons gt_name gts_nil))))) (by decide) (fun x hx => (ev_var rfl)) (by exact by omega)) ea_nil) rc_sum) (congrArg (fun z => I z) hwh)) (fun F H σ c _ => ?_))
  obtain ⟨e0, rest, er⟩ : ∃ e0 rest, hs = e0 :: rest := by
    cases hs with
    | nil => exact absurd rfl hne
    | cons x l => exact ⟨x, l, rfl⟩
  have hat : atI (hs.map (HdA K)) 0 = some (HdA K e0) := by rw [er]; exact atI_nat (j := 0) rfl
  refine sq (st_set (R := Fq K e0.2.1) c (ev_ixT (K := K) (ev_ixLk (lk (ev_var rfl)) ev_c (by exact hat)) ev_c rfl) (fun F H σ c _ => ?_))
  have e00 : e0.2.1 = ((hs.take 0).foldl nrS e0.2.1) := rfl
  refine sq (st_forS (xs := hs) (f := HdA K) (fun i : Rat × Option As × Option As × Option As => [some (Rf p), some (Op (Fq K) lim), some (Ls K (hs.map (HdA K))), some (Fq K t.mo), some (I wh), i.2.1, i.2.2.1, i.2.2.2, some (Fq K i.1), none]) (fun y i => [some (Rf p), some (Op (Fq K) lim), some (Ls K (hs.map (HdA K))), some (Fq K t.mo), some (I wh), some (Fq K y.2.1), some (I y.2.2.1), some (I y.2.2.2), some (Fq K i.1), none]) (fun _ => [tO C K p dx d t]) (fun j i => i.1 = (hs.take j).foldl nrS e0.2.1 ∧ Sz i.1) (e0.2.1, none, none, none) c (src_l (ev_var rfl)) ⟨e00, hze e0 (by rw [er]; exact List.mem_cons_self)⟩ (fun x i => gt_tup (gts_cons gt_name (gts_cons gt_name (gts_cons gt_name gts_nil)))) ?_ ?_)
  · rintro j ⟨b, e, s, pl⟩ ⟨x, o1, o2, o3⟩ G1 F H σ M hk ⟨ex, sx⟩ c hM
    dsimp only at ex sx c
    have se := hze _ (List.mem_of_getElem? hk)
    dsimp only at se
    have et : (hs.take (j + 1)).foldl nrS e0.2.1 = nrS x (b, e, s, pl) := by
      rw [List.take_succ, hk, List.foldl_append, ← ex]; rfl
    refine st_if c (et_B (ev_call (_, _) (ea_cons (ev_var rfl) (ea_cons (ev_var rfl) ea_nil)) (by exact ⟨se, sx⟩))) (fun hb F H c _ => ?_) (fun hb F H c _ => ?_)
    · have hlt : e < x := by simpa using hb
      have e2 : nrS x (b, e, s, pl) = e := if_pos hlt
      refine st_set c (ev_var rfl) (fun F H σ c _ => ?_)
      exact hM (e, some (Fq K e), some (I s), some (I pl)) F H σ ⟨by rw [et, e2], se⟩ c
    · have hlt : ¬ e < x := by simpa using hb
      have e2 : nrS x (b, e, s, pl) = x := if_neg hlt
      exact nxt (hM (x, some (Fq K e), some (I s), some (I pl)) F H _ ⟨by rw [et, e2], sx⟩ c)
  rintro ⟨x, o1, o2, o3⟩ F H σ ⟨ex, sx⟩ c
  dsimp only at ex
  rw [List.take_length] at ex
  have enr : x = nearH hs := by rw [hnr, ex, er]; rfl
  obtain ⟨nr, eN⟩ : ∃ nr, nearH hs = nr := ⟨_, rfl⟩
  rw [eN] at enr ere gd gp gn
  subst enr
  refine sq (st_set (R := Fq K (reach t)) c (ev_is (ev_call (_, _) (ea_cons (ev_var rfl) (ea_cons (ev_call (_, _) (ea_cons (ev_call (_, _) (ea_cons (ev_var rfl) (ea_cons (ev_fld (K := K) (j := 0) (ev_var rfl) rfl T.c_Tide.cl T.n_Tide_height rfl) ea_nil)) (by exact ⟨gn, z3⟩)) (ea_cons (ev_frI (K := K) (ea_cons (ev_var rfl) (ea_cons ev_c ea_nil))) ea_nil)) (by exact ⟨gd, wsz⟩)) ea_nil)) (by exact ⟨z2, gp⟩)) (congrArg (Fq K) ere.symm)) (fun F H σ c _ => ?_))
  have hgo : (goT t lim).fl = t.fl ∧ (goT t lim).en = t.en ∧ (goT t lim).mn = t.mn := goT_fl lim
  refine cut c (fun _ : Unit => [some (Rf p), some (Op (Fq K) lim), some (Ls K (hs.map (HdA K))), some (Fq K t.mo), some (I wh), o1, o2, o3, some (Fq K x), some (Fq K (reach t))]) (fun _ => [tO C K p dx d (goT t lim)]) (fun _ => True) (fun N hN => ?_) ?_
  · have keyN : ¬ cutB t lim = true → goT t lim = { t with he := x, mo := reach t } := fun hc => by
      have h0 : ¬ hds t = [] := by rw [ehs]; exact hne
      unfold goT
      rw [if_neg h0, if_neg hc, ehs, eN]
    cases lim with
    | none =>
      refine st_if (b := false) c (et_and (a := false) (b := false) (et_test (ev_notNO (R := Fq K) (o := none) (fun x => nev_tp) (ev_var rfl))) (fun hb => absurd hb (by decide))) (fun hb F H c _ => Bool.noConfusion hb) (fun hb F H c _ => ?_)
      have e1 := keyN (fun z => by cases z)
      refine sq (st_fld (j := 0) c (ev_var rfl) (ev_var rfl) rfl T.c_Tide.cl T.n_Tide_height (show 5 < 1000 by decide) (fun F H c _ => ?_))
      refine st_fld (j := 0) c (ev_var rfl) (ev_var rfl) rfl T.c_Tide.cl T.n_Tide_moment (show 5 < 1000 by decide) (fun F H c _ => ?_)
      refine hN () F H _ trivial ?_
      rw [e1]; exact c
    | some L =>
      obtain ⟨l1, l2, l3⟩ := hl.lz rfl
      rw [ehs, ewh] at l3
      have l3 := l3 hne
      refine st_if (b := decide (L < reach t)) c (et_and (a := true) (et_test (ev_notNO (R := Fq K) (o := some L) (fun x => nev_tp) (ev_var rfl))) (fun hb => et_B (ev_call (L, reach t) (ea_cons (ev_var rfl) (ea_cons (ev_var rfl) ea_nil)) (by exact ⟨l1, gre⟩)))) (fun hb F H c _ => ?_) (fun hb F H c _ => ?_)
      · have hw0 : (wh : Rat) ≠ 0 := by
          have : wh ≠ 0 := by omega
          exact_mod_cast this
        have e1 : goT t (some L) = { t with he := t.he + (L - t.mo) / (wh : Rat), mo := L } := by
          have h0 : ¬ hds t = [] := by rw [ehs]; exact hne
          unfold goT
          rw [if_neg h0, if_pos (show cutB t (some L) = true from hb), ehs, ewh]; rfl
        dsimp only [Op] at c
        refine sq (st_fld (j := 0) c (ev_call (_, _) (ea_cons (ev_fld (K := K) (j := 0) (ev_var rfl) rfl T.c_Tide.cl T.n_Tide_height rfl) (ea_cons (ev_callE (_, _) (ea_cons (ev_call (_, _) (ea_cons (ev_var rfl) (ea_cons (ev_var rfl) ea_nil)) (by exact ⟨l1, z2⟩)) (ea_cons (ev_frI (K := K) (ea_cons (ev_var rfl) (ea_cons ev_c ea_nil))) ea_nil)) (by exact ⟨l2, wsz⟩) (by exact hw0)) ea_nil)) (by exact ⟨z3, l3⟩)) (ev_var rfl) rfl T.c_Tide.cl T.n_Tide_height (show 5 < 1000 by decide) (fun F H c _ => ?_))
        refine st_fld (j := 0) c (ev_var rfl) (ev_var rfl) rfl T.c_Tide.cl T.n_Tide_moment (show 5 < 1000 by decide) (fun F H c _ => ?_)
        refine hN () F H _ trivial ?_
        rw [e1]; exact c
      · have e1 := keyN (by
          intro z
          rw [show cutB t (some L) = false from hb] at z
          cases z)
        refine sq (st_fld (j := 0) c (ev_var rfl) (ev_var rfl) rfl T.c_Tide.cl T.n_Tide_height (show 5 < 1000 by decide) (fun F H c _ => ?_))
        refine st_fld (j := 0) c (ev_var rfl) (ev_var rfl) rfl T.c_Tide.cl T.n_Tide_moment (show 5 < 1000 by decide) (fun F H c _ => ?_)
        refine hN () F H _ trivial ?_
        rw [e1]; exact c
  rintro ⟨⟩ F H σ _ c
  have eR : goR t lim = some (t.mo, (goT t lim).mo, hs.map fun e => (e.2.2.2, Rat.divInt e.2.2.1 wh)) := by
    have h0 : ¬ hds t = [] := by rw [ehs]; exact hne
    unfold goR
    rw [if_neg h0, ehs, ewh]
  rw [eR] at hq
  have bwh : Bt 8990 wh := by
    have h2 := f.w2
    rw [ehs, ewh] at h2
    exact (show Bt 30 wh by unfold Bt; omega).up (by decide)
  have hw0 : wh ≠ 0 := by omega
  refine eg_ret c (eg_tup (K := K) (Rs := fun q => [Fq K t.mo, Fq K (goT t lim).mo, Rf q]) (ean_tail (ev_var rfl) (ean_tail (ev_fld (K := K) (j := 0) (ev_var rfl) rfl T.c_Tide.cl T.n_Tide_moment rfl) (ean_here (A := oL ((hs.map fun e : Fe => (e.2.2.2, Rat.divInt e.2.2.1 wh)).map (PrA K))) (eo_is (eo_lcA _ (fun e : Fe => PrA K (e.2.2.2, Rat.divInt e.2.2.1 wh)) (src_l (ev_var rfl)) (fun x => (gt_tup (gts_cons gt_name (gts_cons gt_name (gts_cons gt_name gts_nil))))) (by decide) (fun x hx => (ev_tup (K := K) (ea_cons (ev_var rfl) (ea_cons (ev_callE (x.2.2.1, wh) (ea_cons (ev_var rfl) (ea_cons (ev_var rfl) ea_nil)) (by exact bwh) (by exact hw0)) ea_nil)) (show 2 ≤ 1000 by decide))) (by omega)) (by rw [List.map_map]; rfl)) (fun q => ea_nil)))) (fun q => (show 3 ≤ 1000 by decide))) (fun b v F' H' _ c _ r => ?_)
  have c := c.perm (List.Perm.swap _ _ _)
  exact hq b v F' H' trivial c.ext c.sub r c.own c.nd (loc_new c rfl)
def sp_Tide_rises (K : PySem.W.Frag) (C : Str → Addr) : Sp := CtG (fun a : (Addr × Addr × Addr) × (Nat × Nat) × Td × Int => [Rf a.1.1, Fq K (a.2.2.2 : Rat)]) (fun a => [tO C K a.1.1 a.1.2.1 a.1.2.2 a.2.2.1]) (fun a => TdZ a.2.1.1 a.2.1.2 a.2.2.1 ∧ a.2.1.1 ≤ 4074 ∧ a.2.1.2 ≤ 63 ∧ 0 ≤ a.2.2.2 ∧ a.2.2.2 ≤ bigX) (fun a (es : List (Addr × Str3)) => es.map Prod.snd = (rise a.2.2.1 (a.2.2.2 : Rat)).2) (fun _ es => Lh (es.map (SrR K))) (fun a es => tO C K a.1.1 a.1.2.1 a.1.2.2 (rise a.2.2.1 (a.2.2.2 : Rat)).1 :: es.map (prO K))
theorem ok_Tide_rises (T : G K mg C) (D_under : Dn P w K mg base 1 "under" ["one", "other"] (sp_under K C)) (D_Tide_goes : Dm P w K mg base 4 (C "Tide") "goes" ["self", "limit"] (sp_Tide_goes K C)) : Dm P w K mg base 5 (C "Tide") "rises" ["self", "limit"] (sp_Tide_rises K C) := by
  refine T.d_Tide_rises.ok sc_Tide_rises (by first | exact CtF.len (fun _ => rfl) | exact CtE.len (fun _ => rfl) | exact CtR.len (fun _ => rfl) | exact CtM.len (fun _ => rfl) | exact CtO.len (fun _ => rfl) | exact CtRO.len (fun _ => rfl) | exact CtX.len (fun _ => rfl) | exact CtMX.len (fun _ => rfl) | exact CtME.len (fun _ => rfl) | exact CtG.len (fun _ => rfl) | exact CtOX.len (fun _ => rfl) | exact CtV.len (fun _ => rfl) | exact spOr_len (by first | exact CtR.len (fun _ => rfl) | exact CtM.len (fun _ => rfl) | exact CtG.len (fun _ => rfl) | exact CtF.len (fun _ => rfl) | exact CtRO.len (fun _ => rfl)) (by first | exact CtRO.len (fun _ => rfl) | exact CtN.len (fun _ => rfl) | exact CtR.len (fun _ => rfl) | exact CtG.len (fun _ => rfl) | exact CtM.len (fun _ => rfl)) | exact sp_Tide_rises_len) (fun f cdv A outer s H vs Q E hr h => ?_)
  obtain ⟨⟨⟨p, dx, d⟩, ⟨n, m⟩, t, L⟩, F, sFH, ha, ho, nd, ⟨hz, hn, hm, hL0, hLX⟩, hq⟩ := h
  have c := ctx_startM (N := ["self", "limit", "found", "stretch"]) sFH ha ho nd
  dsimp only at hz hn hm hL0 hLX hq
  refine ⟨_, (pss_cons (ps_set (i := 2) sc_Tide_rises.nd rfl (by first | exact Or.inl rfl | exact Or.inr rfl) (pe_lst pa_nil))
    (pss_cons (ps_while PassesOwn.never (pt_val (pe_d D_under (hr.mono (by decide)) (by rfl) (pa_cons (pe_fld (pv 0) rfl) (pa_cons (pv 1) pa_nil))))
      (pss_cons (ps_set (i := 3) sc_Tide_rises.nd rfl (by first | exact Or.inl rfl | exact Or.inr rfl) (pe_dm (pv 0) T.c_Tide.cl D_Tide_goes (hr.mono (by decide)) (pa_cons (pv 1) pa_nil)))
      (pss_one (ps_if (pt_cmpR op_notN (pv 3) pe_non (nomark _))
        (pss_one (ps_expr (pe_bm PySem.F.plainAttrs_list PySem.F.slot_list_append PySem.F.type_list_append mt_append (pv 2) (pa_cons (pv 3) pa_nil))))
        pss_nil))))
    (pss_one (ps_ret (pv 2))))), ?_⟩
  have szL : Sz (L : Rat) := Sz.int ((show Bt 60 L by unfold Bt; unfold bigX at hLX; omega).up (by decide))
  have ln := hz.ln
  refine sq (st_nilW c (fun q F H σ c _ hzq => ?_))
  refine sq (st_while (fun i : Nat × (Td × List (Addr × Str3)) × Option As => [some (Rf p), some (Fq K (L : Rat)), some (Rf q), i.2.2]) (fun i => (q, oL (i.2.1.2.map (SrR K))) :: tO C K p dx d i.2.1.1 :: i.2.1.2.map (prO K)) (fun i => rk (L : Rat) i.1 (i.2.1.1, i.2.1.2.map Prod.snd) = rise t (L : Rat) ∧ (i.2.1.1.mo < (L : Rat) → alive i.2.1.1 < i.1) ∧ (TdZ n m i.2.1.1 ∨ (¬ i.2.1.1.mo < (L : Rat) ∧ TdZ (n + 26) m i.2.1.1)) ∧ i.2.1.2.length + i.1 ≤ t.fl.length + 1) (fun i => i.1) (fun i => decide (i.2.1.1.mo < (L : Rat))) (t.fl.length + 1, (t, []), none) c ⟨by unfold rise; rfl, fun _ => Nat.lt_succ_of_le alive_le, .inl hz, by simp⟩ (fun i hi => ?tst) ?_ ?_)
  case tst =>
    obtain ⟨i1, i2, i3, i4⟩ := hi
    have hz2 : TdZ (n + 26) m i.2.1.1 := by
      rcases i3 with z | z
      · exact z.up (by omega)
      · exact z.2
    exact (et_B (ev_call (_, _) (ea_cons (ev_fld (K := K) (j := 1) (ev_var rfl) rfl T.c_Tide.cl T.n_Tide_moment rfl) (ea_cons (ev_var rfl) ea_nil)) (by exact ⟨(hz2.fz (by omega) hm).2.1, szL⟩)))
  · rintro ⟨k, ⟨td, acc⟩, o1⟩ F H σ M ⟨i1, i2, i3, i4⟩ hb c hM
    dsimp only at i1 i2 i3 i4 hb c
    have hlt : td.mo < (L : Rat) := of_decide_eq_true hb
    have hz2 : TdZ n m td := by
      rcases i3 with z | z
      · exact z
      · exact absurd hlt z.1
    have hk := i2 hlt
    obtain ⟨k', rfl⟩ : ∃ k', k = k' + 1 := ⟨k - 1, by omega⟩
    rw [rk_step hlt] at i1
    dsimp only at i1
    have hst := hz2.step hm hlt hLX
    have lm : LmZ n m td (some (L : Rat)) := ⟨hz2, by omega, hm, fun _ z => (by cases z), fun L' e => by cases e; exact ⟨L, rfl, hLX, hlt⟩⟩
    refine sq (eg_set c (eg_meth (m := "goes") (j := 1) (Ωr := (q, oL (acc.map (SrR K))) :: acc.map (prO K)) ((p, dx, d), (n, m), td, some (L : Rat)) (ev_var rfl) rfl rfl (ea_cons (ev_var rfl) ea_nil) rfl (List.Perm.swap _ _ _) lm (fun x hx => .inl hx)) (fun b F H σ _ c _ => ?_))
    have i2' : (goT td (some (L : Rat))).mo < (L : Rat) → alive (goT td (some (L : Rat))) < k' := fun z => by
      rcases hst with w | w
      · rw [w.1] at z; exact absurd z Rat.lt_irrefl
      · have := w.1; omega
    have i3' : TdZ n m (goT td (some (L : Rat))) ∨ (¬ (goT td (some (L : Rat))).mo < (L : Rat) ∧ TdZ (n + 26) m (goT td (some (L : Rat)))) := by
      rcases hst with w | w
      · exact .inr ⟨by rw [w.1]; exact Rat.lt_irrefl, w.2⟩
      · exact .inl w.2.2
    obtain ⟨td', etd⟩ : ∃ td', goT td (some (L : Rat)) = td' := ⟨_, rfl⟩
    rw [etd] at i1 i2' i3' c
    dsimp only at c
    cases eg : goR td (some (L : Rat)) with
    | none =>
      rw [eg] at i1 c
      refine st_if (b := false) c (et_test (ev_notNO (R := fun s => SrR K (b, s)) (o := none) (fun x => nev_tp) (ev_var rfl))) (fun hb F H c _ => Bool.noConfusion hb) (fun hb F H c _ => ?_)
      refine nxt (hM (k', (td', acc), _) F H _ ⟨by simpa using i1, i2', i3', by dsimp only; omega⟩ (Nat.lt_succ_self k') (c.perm (List.Perm.swap _ _ _)))
    | some s =>
      rw [eg] at i1 c
      refine st_if (b := true) c (et_test (ev_notNO (R := fun s => SrR K (b, s)) (o := some s) (fun x => nev_tp) (ev_var rfl))) (fun hb F H c _ => ?_) (fun hb F H c _ => Bool.noConfusion hb)
      dsimp only [Op] at c
      refine st_appW (R := SrR K (b, s)) (j := 2) c (ev_var rfl) rfl (ev_var rfl) (by rw [List.length_map]; omega) (fun F H c _ => ?_) (.inr hzq)
      refine hM (k', (td', acc ++ [(b, s)]), some (SrR K (b, s))) F H _ ⟨by dsimp only; rw [List.map_append]; exact i1, i2', i3', by dsimp only; rw [List.length_append, List.length_singleton]; omega⟩ (Nat.lt_succ_self k') ?_
      dsimp only
      rw [List.map_append, List.map_append]
      exact c.perm prm_app
  · rintro ⟨k, ⟨td, acc⟩, o1⟩ F H σ ⟨i1, i2, i3, i4⟩ hb c
    dsimp only at i1 i2 i3 i4 hb c
    have hlt : ¬ td.mo < (L : Rat) := of_decide_eq_false hb
    rw [rk_stop hlt] at i1
    rw [← i1] at hq
    exact st_retLH (j := 0) c (ev_var rfl) rfl rdL (fun v F' H' c _ r => hq acc v F' H' rfl c.ext c.sub r c.own c.nd (loc_new c rfl)) hzq
def sp_Tide_drains (K : PySem.W.Frag) (C : Str → Addr) : Sp := CtG (fun a : (Addr × Addr × Addr) × (Nat × Nat) × Td => [Rf a.1.1]) (fun a => [tO C K a.1.1 a.1.2.1 a.1.2.2 a.2.2]) (fun a => TdZ a.2.1.1 a.2.1.2 a.2.2 ∧ a.2.1.1 ≤ 4100 ∧ a.2.1.2 ≤ 63 ∧ a.2.2.mo ≤ ((4000000000000 : Int) : Rat)) (fun a (es : List (Addr × Str3)) => es.map Prod.snd = (drain a.2.2).2) (fun _ es => Lh (es.map (SrR K))) (fun a es => tO C K a.1.1 a.1.2.1 a.1.2.2 (drain a.2.2).1 :: es.map (prO K))
theorem ok_Tide_drains (T : G K mg C) (D_Tide_heads : Dm P w K mg base 2 (C "Tide") "heads" ["self"] (sp_Tide_heads K C)) (D_Tide_goes : Dm P w K mg base 4 (C "Tide") "goes" ["self", "limit"] (sp_Tide_goes K C)) : Dm P w K mg base 5 (C "Tide") "drains" ["self"] (sp_Tide_drains K C) := by
  refine T.d_Tide_drains.ok sc_Tide_drains (by first | exact CtF.len (fun _ => rfl) | exact CtE.len (fun _ => rfl) | exact CtR.len (fun _ => rfl) | exact CtM.len (fun _ => rfl) | exact CtO.len (fun _ => rfl) | exact CtRO.len (fun _ => rfl) | exact CtX.len (fun _ => rfl) | exact CtMX.len (fun _ => rfl) | exact CtME.len (fun _ => rfl) | exact CtG.len (fun _ => rfl) | exact CtOX.len (fun _ => rfl) | exact CtV.len (fun _ => rfl) | exact spOr_len (by first | exact CtR.len (fun _ => rfl) | exact CtM.len (fun _ => rfl) | exact CtG.len (fun _ => rfl) | exact CtF.len (fun _ => rfl) | exact CtRO.len (fun _ => rfl)) (by first | exact CtRO.len (fun _ => rfl) | exact CtN.len (fun _ => rfl) | exact CtR.len (fun _ => rfl) | exact CtG.len (fun _ => rfl) | exact CtM.len (fun _ => rfl)) | exact sp_Tide_drains_len) (fun f cdv A outer s H vs Q E hr h => ?_)
  obtain ⟨⟨⟨p, dx, d⟩, ⟨n, m⟩, t⟩, F, sFH, ha, ho, nd, ⟨hz, hn, hm, hmo⟩, hq⟩ := h
  have c := ctx_startM (N := ["self", "found"]) sFH ha ho nd
  dsimp only at hz hn hm hmo hq
  refine ⟨_, (pss_cons (ps_set (i := 1) sc_Tide_drains.nd rfl (by first | exact Or.inl rfl | exact Or.inr rfl) (pe_lst pa_nil))
    (pss_cons (ps_while PassesOwn.never (pt_cmpR (op_neD hr.units) (pe_dm0 (pv 0) T.c_Tide.cl D_Tide_heads (hr.mono (by decide))) (pe_lst pa_nil) (nomark _))
      (pss_one (ps_expr (pe_bm PySem.F.plainAttrs_list PySem.F.slot_list_append PySem.F.type_list_append mt_append (pv 1) (pa_cons (pe_dm (pv 0) T.c_Tide.cl D_Tide_goes (hr.mono (by decide)) (pa_cons pe_non pa_nil)) pa_nil)))))
    (pss_one (ps_ret (pv 1))))), ?_⟩
  have ln := hz.ln
  have hp0 : potD m t ≤ (bigX : Rat) := by
    unfold potD
    have h1 : ((m * 1000000 : Int) : Rat) ≤ ((63000000 : Int) : Rat) := rle (by omega)
    have h2 := hz.he.1
    have h3 := Rat.mul_le_mul_of_nonneg_right (show ((m * 1000000 : Int) : Rat) - t.he ≤ ((63000000 : Int) : Rat) by grind) (show (0 : Rat) ≤ ((63000000 : Int) : Rat) from rle (a := 0) (by decide))
    have h4 : ((63000000 : Int) : Rat) * ((63000000 : Int) : Rat) + ((4000000000000 : Int) : Rat) ≤ (bigX : Rat) := by
      rw [← Rat.intCast_mul, ← Rat.intCast_add]; exact rle (by unfold bigX; decide)
    grind
  refine sq (st_nilW c (fun q F H σ c _ hzq => ?_))
  refine sq (st_while (fun i : Nat × (Td × List (Addr × Str3)) => [some (Rf p), some (Rf q)]) (fun i => (q, oL (i.2.2.map (SrR K))) :: tO C K p dx d i.2.1 :: i.2.2.map (prO K)) (fun i => dk2 i.1 (i.2.1, i.2.2.map Prod.snd) = drain t ∧ alive i.2.1 < i.1 ∧ TdZ n m i.2.1 ∧ potD m i.2.1 ≤ (bigX : Rat) ∧ i.2.2.length + i.1 ≤ t.fl.length + 1) (fun i => i.1) (fun i => !(hds i.2.1).isEmpty) (t.fl.length + 1, (t, [])) c ⟨by unfold drain; rfl, Nat.lt_succ_of_le alive_le, hz, hp0, by simp⟩ (fun i hi => ?tst) ?_ ?_)
  case tst =>
    obtain ⟨i1, i2, i3, i4, i5⟩ := hi
    obtain ⟨z1, z2, z3, z4⟩ := i3.fz (by omega) hm
    have l2 := i3.ln
    exact et_test (ev_cmpNilD true (hd_is (K := K)) hd_gd (lk (ev_meth (m := "heads") (j := 1) ((p, dx, d), i.2.1) (ev_var rfl) rfl rfl ea_nil rfl (List.singleton_sublist.mpr (List.mem_of_getElem? (i := 1) rfl)) ⟨z1, z3, by show i.2.1.fl.length ≤ 1000; omega⟩)))
  · rintro ⟨k, td, acc⟩ F H σ M ⟨i1, i2, i3, i4, i5⟩ hb c hM
    dsimp only at i1 i2 i3 i4 i5 hb c
    have hne : hds td ≠ [] := by
      intro z
      rw [z] at hb; cases hb
    obtain ⟨k', rfl⟩ : ∃ k', k = k' + 1 := ⟨k - 1, by omega⟩
    rw [dk2_step hne] at i1
    dsimp only at i1
    obtain ⟨s1, s2, s3⟩ := drain_step i3 hm hne i4
    obtain ⟨g1, g2⟩ := goT_none hne
    have lm : LmZ n m td none := ⟨i3, hn, hm, fun z => absurd z hne, fun L' e => by cases e⟩
    obtain ⟨st, est⟩ : ∃ st, (td.mo, reach td, (hds td).map fun e => (e.2.2.2, Rat.divInt e.2.2.1 (whS (hds td)))) = st := ⟨_, rfl⟩
    rw [est] at g2
    refine eg_app (j := 0) (j2 := 2) (R := fun b => SrR K (b, st)) (Ω' := fun b => tO C K p dx d (goT td none) :: prO K (b, st) :: (q, oL (acc.map (SrR K))) :: acc.map (prO K)) c (ev_var rfl) rfl (eg_is (eg_meth (m := "goes") (j := 1) (Ωr := (q, oL (acc.map (SrR K))) :: acc.map (prO K)) ((p, dx, d), (n, m), td, none) (ev_var rfl) rfl rfl (ea_cons ev_c ea_nil) rfl (List.Perm.swap _ _ _) lm (fun x hx => .inl hx)) (fun b => by show Op (fun s => SrR K (b, s)) (goR td none) = _; rw [g2]; rfl) (fun b => by show (tO C K p dx d (goT td none) :: (goR td none).toList.map fun s => prO K (b, s)) ++ _ = _; rw [g2]; rfl)) (fun b _ => rfl) (by rw [List.length_map]; omega) (fun b F H _ c _ => ?_) (.inr hzq)
    rw [g2] at i1
    have c2 := c.perm prm_app
    refine hM (k', (goT td none, acc ++ [(b, st)])) F H _ ⟨by dsimp only; rw [List.map_append]; exact i1, by dsimp only; omega, s1, s2, by dsimp only; rw [List.length_append, List.length_singleton]; omega⟩ (Nat.lt_succ_self k') ?_
    dsimp only
    rw [List.map_append, List.map_append]
    exact c2
  · rintro ⟨k, td, acc⟩ F H σ ⟨i1, i2, i3, i4, i5⟩ hb c
    dsimp only at i1 i2 i3 i4 i5 hb c
    have he : hds td = [] := by
      cases e : hds td with
      | nil => rfl
      | cons a l => rw [e] at hb; cases hb
    rw [dk2_stop he] at i1
    rw [← i1] at hq
    exact st_retLH (j := 0) c (ev_var rfl) rfl rdL (fun v F' H' c _ r => hq acc v F' H' rfl c.ext c.sub r c.own c.nd (loc_new c rfl)) hzq
def sp_Tide_come (K : PySem.W.Frag) (C : Str → Addr) : Sp := CtM (fun a : (Addr × Addr × Addr) × (Nat × Nat) × Td × Pie => [Rf a.1.1, Pc K a.2.2.2]) (fun a => [tO C K a.1.1 a.1.2.1 a.1.2.2 a.2.2.1, (a.1.2.2, oD (enA K a.2.2.1.en))]) (fun a => TdZ a.2.1.1 a.2.1.2 a.2.2.1 ∧ a.2.1.1 ≤ 4050 ∧ a.2.1.2 ≤ 62 ∧ (0 ≤ a.2.2.2.1 ∧ a.2.2.2.1 ≤ bigX) ∧ (1 ≤ a.2.2.2.2.2.1 ∧ a.2.2.2.2.2.1 ≤ 1000000) ∧ (1 ≤ a.2.2.2.2.2.2 ∧ a.2.2.2.2.2.2 ≤ 1000000)) (fun a => Tp K [Fq K (tag1 a.2.2.1 a.2.2.2.1 a.2.2.2.2.1), Fq K (tag2 a.2.2.1 a.2.2.2.1 a.2.2.2.2.1 a.2.2.2.2.2.1 a.2.2.2.2.2.2)]) (fun a => [tO C K a.1.1 a.1.2.1 a.1.2.2 (comeT a.2.2.1 a.2.2.2.1 a.2.2.2.2.1 a.2.2.2.2.2.1 a.2.2.2.2.2.2), (a.1.2.2, oD (enA K (comeT a.2.2.1 a.2.2.2.1 a.2.2.2.2.1 a.2.2.2.2.2.1 a.2.2.2.2.2.2).en))])
theorem ok_Tide_come (T : G K mg C) (D_Tide_rises : Dm P w K mg base 5 (C "Tide") "rises" ["self", "limit"] (sp_Tide_rises K C)) (D_greater : Dn P w K mg base 2 "greater" ["one", "other"] (sp_greater K C)) (D_ratio : Dn P w K mg base 2 "ratio" ["top", "bottom"] (sp_ratio K C)) (D_plus : Dn P w K mg base 3 "plus" ["one", "other"] (sp_plus K C)) (D_under : Dn P w K mg base 1 "under" ["one", "other"] (sp_under K C)) : Dm P w K mg base 6 (C "Tide") "come" ["self", "piece"] (sp_Tide_come K C) := by
  refine T.d_Tide_come.ok sc_Tide_come (by first | exact CtF.len (fun _ => rfl) | exact CtE.len (fun _ => rfl) | exact CtR.len (fun _ => rfl) | exact CtM.len (fun _ => rfl) | exact CtO.len (fun _ => rfl) | exact CtRO.len (fun _ => rfl) | exact CtX.len (fun _ => rfl) | exact CtMX.len (fun _ => rfl) | exact CtME.len (fun _ => rfl) | exact CtG.len (fun _ => rfl) | exact CtOX.len (fun _ => rfl) | exact CtV.len (fun _ => rfl) | exact spOr_len (by first | exact CtR.len (fun _ => rfl) | exact CtM.len (fun _ => rfl) | exact CtG.len (fun _ => rfl) | exact CtF.len (fun _ => rfl) | exact CtRO.len (fun _ => rfl)) (by first | exact CtRO.len (fun _ => rfl) | exact CtN.len (fun _ => rfl) | exact CtR.len (fun _ => rfl) | exact CtG.len (fun _ => rfl) | exact CtM.len (fun _ => rfl)) | exact sp_Tide_come_len) (fun f cdv A outer s H vs Q E hr h => ?_)
  obtain ⟨⟨⟨p, dx, d⟩, ⟨n, m⟩, t, at', who, len, sh⟩, F, sFH, ha, ho, nd, ⟨hz, hn, hm, ⟨a0, a1⟩, hl, hs⟩, hq⟩ := h
  have c := ctx_startM (N := ["self", "piece", "at", "who", "length", "share", "begin", "end", "entry"]) sFH ha ho nd
  dsimp only at hz hn hm a0 a1 hl hs hq
  refine ⟨_, (pss_cons (ps_asg (pv 1) (show PG _ _ (gTup K 4 _) from pg_tup rfl (pgs_cons (pg_name (i := 2) sc_Tide_come.nd rfl (by first | exact Or.inl rfl | exact Or.inr rfl)) (pgs_cons (pg_name (i := 3) sc_Tide_come.nd rfl (by first | exact Or.inl rfl | exact Or.inr rfl)) (pgs_cons (pg_name (i := 4) sc_Tide_come.nd rfl (by first | exact Or.inl rfl | exact Or.inr rfl)) (pgs_cons (pg_name (i := 5) sc_Tide_come.nd rfl (by first | exact Or.inl rfl | exact Or.inr rfl)) pgs_nil))))))
    (pss_cons (ps_expr (pe_dm (pv 0) T.c_Tide.cl D_Tide_rises (hr.mono (by decide)) (pa_cons (pe_tup (pa_cons (pv 2) (pa_cons pe_int pa_nil))) pa_nil)))
    (pss_cons (ps_set (i := 6) sc_Tide_come.nd rfl (by first | exact Or.inl rfl | exact Or.inr rfl) (pe_d D_greater (hr.mono (by decide)) (by rfl) (pa_cons (pe_fld (pv 0) rfl) (pa_cons (pe_dget2 (hu_of hr) (pe_fld (pv 0) rfl) (pv 3) (pe_tup (pa_cons pe_int (pa_cons pe_int pa_nil))) ⟨rfl, rfl, rfl, rfl⟩) pa_nil))))
    (pss_cons (ps_set (i := 7) sc_Tide_come.nd rfl (by first | exact Or.inl rfl | exact Or.inr rfl) (pe_d D_plus (hr.mono (by decide)) (by rfl) (pa_cons (pv 6) (pa_cons (pe_d D_ratio (hr.mono (by decide)) (by rfl) (pa_cons (pv 4) (pa_cons (pv 5) pa_nil))) pa_nil))))
    (pss_cons (ps_dput (hu_of hr) (pe_fld (pv 0) rfl) (pv 3) (pv 7) rfl)
    (pss_cons (ps_fld (pv 0) (by exact (pe_lc (own := [("entry", 8)]) rfl sc_Tide_come.nd (pi_list (pe_fld (pv 0) rfl)) (blkOk_by (N := ["self", "piece", "at", "who", "length", "share", "begin", "end", "entry"]) (sc := defScope s_Tide_come) (by decide +kernel)) (fun _ _ _ _ _ => (pg_name (i := 8) sc_Tide_come.nd rfl (by first | exact Or.inl rfl | exact Or.inr rfl))) (fun _ _ _ _ _ => (pts_one (pt_val (pe_d D_under (hr.mono (by decide)) (by rfl) (pa_cons (show PE _ _ (tFld K _ _) from pe_fld (pv 0) rfl) (pa_cons (pe_ix (show IxR _ (rIxT K) from ix_tup) (pv 8) pe_int (fun _ _ => rfl)) pa_nil)))))) (fun _ _ _ _ _ => (pv 8)))) rfl)
    (pss_cons (ps_expr (pe_bm PySem.F.plainAttrs_list PySem.F.slot_list_append PySem.F.type_list_append mt_append (pe_fld (pv 0) rfl) (pa_cons (pe_tup (pa_cons (pv 6) (pa_cons (pv 7) (pa_cons (pv 5) (pa_cons (pe_fld (pv 0) rfl) pa_nil))))) pa_nil)))
    (pss_cons (ps_fld (pv 0) (pe_op op_add (pe_fld (pv 0) rfl) pe_int) rfl)
    (pss_one (ps_ret (pe_tup (pa_cons (pv 6) (pa_cons (pv 7) pa_nil))))))))))))), ?_⟩
  have rz := rise_z hz (by omega) a1
  refine sq (st_asg (R := Pc K (at', who, len, sh)) c (ev_var rfl) (gt_tup (Rs := [I at', I who, I len, I sh]) (gts_cons gt_name (gts_cons gt_name (gts_cons gt_name (gts_cons gt_name gts_nil))))) (fun F H σ c _ => ?_))
  refine sq (eg_drop c (eg_meth (m := "rises") (j := 0) (Ωr := [(d, oD (enA K t.en))]) ((p, dx, d), (n, m), t, at') (ev_var rfl) rfl rfl (ea_cons (ev_frI (K := K) (ea_cons (ev_var rfl) (ea_cons ev_c ea_nil))) ea_nil) rfl (List.Perm.refl _) ⟨hz, by show n ≤ 4074; omega, by show m ≤ 63; omega, a0, a1⟩ (fun x hx => .inl (by rw [List.mem_singleton.mp hx]; exact List.mem_cons_self))) (fun es F H _ c _ => ?_))
  have c := c.subl (Ω' := [tO C K p dx d (rise t (at' : Rat)).1, (d, oD (enA K t.en))]) (List.Sublist.cons₂ _ (List.sublist_append_right _ _))
  have ecm : comeT t at' who len sh = addT (rise t (at' : Rat)).1 who len sh := by unfold comeT; rfl
  have et1 : tag1 t at' who = begT (rise t (at' : Rat)).1 who := by unfold tag1; rfl
  have et2 : tag2 t at' who len sh = begT (rise t (at' : Rat)).1 who + Rat.divInt len sh := by unfold tag2; rw [et1]
  rw [ecm, et1, et2] at hq
  have rzz := rz.z
  have een := rz.en
  obtain ⟨t1, e1⟩ : ∃ t1, (rise t (at' : Rat)).1 = t1 := ⟨_, rfl⟩
  rw [e1] at c hq rzz een
  rw [← een] at c
  obtain ⟨z1, z2, z3, z4⟩ := rzz.fz (by omega) (by omega)
  obtain ⟨⟨gb1, gb2⟩, gb3⟩ := getD_bd rzz who
  obtain ⟨D, d0, d1, o1, o2, o3, o4, o5⟩ := rzz.ex
  have szg : Sz ((getD who t1.en).getD 0) := by
    obtain ⟨x1, x2⟩ := bigm (m := m) (by omega) ⟨gb1, gb2⟩
    exact sz_in (n := n + 26) (by omega) d0 d1 (gb3 D o4) x1 x2
  obtain ⟨⟨bb1, bb2⟩, bb3⟩ := begT_bd rzz who
  have szb : Sz (begT t1 who) := by
    obtain ⟨x1, x2⟩ := bigm (m := m) (by omega) ⟨bb1, bb2⟩
    exact sz_in (n := n + 26) (by omega) d0 d1 (bb3 D o2 o4) x1 x2
  obtain ⟨q1, q2⟩ := divI_bd (l := len) (s := sh) (by omega) hs.1
  have bsh : Bt 20 sh := by unfold Bt; omega
  have szd : Sz (Rat.divInt len sh) := by
    have h3 : (len : Rat) ≤ (bigX : Rat) := rle (by unfold bigX; omega)
    obtain ⟨x1, x2⟩ := bigo (a := Rat.divInt len sh) ⟨q1, by grind⟩
    refine sz_in (n := 20) (D := 1 * sh) (by omega) (by omega) ?_ (divI_on (by omega)) x1 x2
    rw [Int.one_mul]; exact bsh.up (by omega)
  have hgm : getD who (enA K t1.en) = (getD who t1.en).map (Fq K) := getD_map who t1.en
  have ebeg : (if t1.he < (getD who t1.en).getD 0 then (getD who t1.en).getD 0 else t1.he) = begT t1 who := by unfold begT gtr2; rfl
  refine sq (st_set (R := Fq K (begT t1 who)) c (ev_is (ev_call (t1.he, (getD who t1.en).getD 0) (ea_cons (ev_fld (K := K) (j := 0) (ev_var rfl) rfl T.c_Tide.cl T.n_Tide_height rfl) (ea_cons (ev_dget2 (S := Fq K ((getD who t1.en).getD 0)) (dko (j := 1) (ev_fld (K := K) (j := 0) (ev_var rfl) rfl T.c_Tide.cl T.n_Tide_ends rfl) rfl) (ev_var rfl) (ev_frI (K := K) (ea_cons ev_c (ea_cons ev_c ea_nil))) (fun R hR F v r => by
    rw [hgm] at hR
    cases e : getD who t1.en with
    | none => rw [e] at hR; cases hR
    | some y => rw [e] at hR; cases hR; exact r) (fun hR F v r => by
    rw [hgm] at hR
    cases e : getD who t1.en with
    | none => exact r
    | some y => rw [e] at hR; cases hR)) ea_nil)) (by exact ⟨z3, szg⟩)) (congrArg (Fq K) ebeg)) (fun F H σ c _ => ?_))
  obtain ⟨b, eb⟩ : ∃ b, begT t1 who = b := ⟨_, rfl⟩
  have eadd : addT t1 who len sh = { t1 with en := putD t1.en who (b + Rat.divInt len sh), fl := t1.fl.filter (fun e => decide (t1.he < e.2.1)) ++ [(b, b + Rat.divInt len sh, sh, t1.mn)], mn := t1.mn + 1 } := by unfold addT; rw [eb]
  rw [eadd] at hq
  rw [eb] at c szb hq
  obtain ⟨e, ee⟩ : ∃ e, b + Rat.divInt len sh = e := ⟨_, rfl⟩
  rw [ee] at hq
  refine sq (st_set (R := Fq K e) c (ev_is (ev_call (_, _) (ea_cons (ev_var rfl) (ea_cons (ev_callE (_, _) (ea_cons (ev_var rfl) (ea_cons (ev_var rfl) ea_nil)) (by exact by exact bsh.up (by decide)) (by exact by show sh ≠ 0; omega)) ea_nil)) (by exact ⟨szb, szd⟩)) (congrArg (Fq K) ee)) (fun F H σ c _ => ?_))
  have hel := rzz.el
  refine sq (st_dput (j := 1) c (ev_var rfl) (ev_fld (K := K) (j := 0) (ev_var rfl) rfl T.c_Tide.cl T.n_Tide_ends rfl) rfl (ev_var rfl) (by rw [List.length_map]; omega) (fun F H c _ => ?_) (.inl (List.mem_cons_of_mem _ List.mem_cons_self)))
  have c : Ctx _ F H _ _ [tO C K p dx d t1, (d, oD (putD (enA K t1.en) who (Fq K e)))] := c
  rw [show putD (enA K t1.en) who (Fq K e) = enA K (putD t1.en who e) from putD_map] at c
  have hfl := rzz.ln
  refine sq (st_fldO (A := oL ((t1.fl.filter (fun e => decide (t1.he < e.2.1))).map (FeA K))) (j := 0) c (eo_lc _ (fun e : Fe => decide (t1.he < e.2.1)) (FeA K) (src_l (ev_fld (K := K) (j := 0) (ev_var rfl) rfl T.c_Tide.cl T.n_Tide_flowing rfl)) (fun x => gt_name) (by decide) (fun x hx => (et_B (ev_call (t1.he, x.2.1) (ea_cons (ev_fld (K := K) (j := 0) (ev_var rfl) rfl T.c_Tide.cl T.n_Tide_height rfl) (ea_cons (ev_ixT (K := K) (ev_var rfl) ev_c rfl) ea_nil)) (by exact ⟨z3, (z1 x hx).2⟩)))) (fun x hx hc => (ev_var rfl)) (by omega)) (fun q => ev_var rfl) rfl T.c_Tide.cl T.n_Tide_flowing (show 5 < 1000 by decide) (fun q F H c _ hzq => ?_) (.inl List.mem_cons_self))
  have lf := List.length_filter_le (fun e : Fe => decide (t1.he < e.2.1)) t1.fl
  refine sq (st_appW (R := FeA K (b, e, sh, t1.mn)) (j := 0) c (ev_fld (K := K) (j := 1) (ev_var rfl) rfl T.c_Tide.cl T.n_Tide_flowing rfl) rfl (ev_tup (K := K) (ea_cons (ev_var rfl) (ea_cons (ev_var rfl) (ea_cons (ev_var rfl) (ea_cons (ev_fld (K := K) (j := 1) (ev_var rfl) rfl T.c_Tide.cl T.n_Tide_many rfl) ea_nil)))) (show 4 ≤ 1000 by decide)) (by rw [List.length_map]; omega) (fun F H c _ => ?_) (.inr hzq))
  obtain ⟨F2, s2, c, rq⟩ := c.frzW (K := K) (j := 0) rfl rdL hzq
  have c := c.recast (j := 0) (B := oI (C "Tide") dx (tF K { t1 with fl := t1.fl.filter (fun e => decide (t1.he < e.2.1)) ++ [(b, e, sh, t1.mn)] } d)) rfl (by
    rintro o ⟨vs, eo, hv⟩
    refine ⟨vs, eo, hv.imp ⟨rfl, fun v h => h, rfl, fun v h => h, rfl, fun v h => h, rfl, fun v h => ?_, rfl, fun v h => h, trivial⟩⟩
    cases h
    rw [← List.map_singleton, ← List.map_append] at rq
    exact rq)
  refine sq (st_fld (j := 0) c (ev_I0 (ev_fld (K := K) (j := 0) (ev_var rfl) rfl T.c_Tide.cl T.n_Tide_many rfl) ev_c) (ev_var rfl) rfl T.c_Tide.cl T.n_Tide_many (show 5 < 1000 by decide) (fun F H c _ => ?_))
  exact st_ret c (ev_tup (K := K) (ea_cons (ev_var rfl) (ea_cons (ev_var rfl) ea_nil)) (show 2 ≤ 1000 by decide)) (fun v F' H' c _ r => hq v F' H' c.ext c.sub r c.own)
def sp_flow (K : PySem.W.Frag) (C : Str → Addr) : Sp := CtG (fun a : List Pie => [Ls K (a.map (Pc K))]) (fun _ => []) (fun a => RowF a) (fun a (es : List (Addr × Str3)) => es.map Prod.snd = flowS a) (fun _ es => Ls K (es.map (SrR K))) (fun _ es => es.map (prO K))
theorem ok_flow (T : G K mg C) (D_Tide___init__ : Di P w K mg base 1 (C "Tide") ["self"] [] (sp_Tide___init__ K C)) (D_Tide_rises : Dm P w K mg base 5 (C "Tide") "rises" ["self", "limit"] (sp_Tide_rises K C)) (D_Tide_come : Dm P w K mg base 6 (C "Tide") "come" ["self", "piece"] (sp_Tide_come K C)) (D_Tide_drains : Dm P w K mg base 5 (C "Tide") "drains" ["self"] (sp_Tide_drains K C)) : Dn P w K mg base 7 "flow" ["row"] (sp_flow K C) := by
  refine T.d_flow.ok sc_flow (by first | exact CtF.len (fun _ => rfl) | exact CtE.len (fun _ => rfl) | exact CtR.len (fun _ => rfl) | exact CtM.len (fun _ => rfl) | exact CtO.len (fun _ => rfl) | exact CtRO.len (fun _ => rfl) | exact CtX.len (fun _ => rfl) | exact CtMX.len (fun _ => rfl) | exact CtME.len (fun _ => rfl) | exact CtG.len (fun _ => rfl) | exact CtOX.len (fun _ => rfl) | exact CtV.len (fun _ => rfl) | exact spOr_len (by first | exact CtR.len (fun _ => rfl) | exact CtM.len (fun _ => rfl) | exact CtG.len (fun _ => rfl) | exact CtF.len (fun _ => rfl) | exact CtRO.len (fun _ => rfl)) (by first | exact CtRO.len (fun _ => rfl) | exact CtN.len (fun _ => rfl) | exact CtR.len (fun _ => rfl) | exact CtG.len (fun _ => rfl) | exact CtM.len (fun _ => rfl)) | exact sp_flow_len) (fun f cdv A outer s H vs Q E hr h => ?_)
  obtain ⟨row, F, sFH, ha, _, _, hr0, hq⟩ := h
  have c := ctx_start (N := ["row", "tide", "found", "piece"]) sFH ha
  have c : Ctx ⟨F, H, [], F, []⟩ F H _ [some (Ls K (row.map (Pc K))), none, none, none] [] := c
  refine ⟨_, (pss_cons (ps_set (i := 1) sc_flow.nd rfl (by first | exact Or.inl rfl | exact Or.inr rfl) (pe_di0 D_Tide___init__ (hr.mono (by decide)) (by rfl) T.c_Tide.g))
    (pss_cons (ps_set (i := 2) sc_flow.nd rfl (by first | exact Or.inl rfl | exact Or.inr rfl) (pe_lst pa_nil))
    (pss_cons (ps_for PassesOwn.never rfl (pi_list (pv 0)) (pg_name (i := 3) sc_flow.nd rfl (by first | exact Or.inl rfl | exact Or.inr rfl))
      (pss_cons (ps_expr (pe_bm (r := rExtend) PySem.F.plainAttrs_list PySem.F.slot_list_extend PySem.F.type_list_extend (fun pins s σ H x vs v us Q I rx rv h => mt_extend pins s σ H x vs v us Q I rx rv h) (pv 2) (pa_cons (pe_dm (pv 1) T.c_Tide.cl D_Tide_rises (hr.mono (by decide)) (pa_cons (pe_tup (pa_cons (pe_ix (show IxR _ (rIxT K) from ix_tup) (pv 3) pe_int (fun _ _ => rfl)) (pa_cons pe_int pa_nil))) pa_nil)) pa_nil)))
      (pss_one (ps_expr (pe_dm (pv 1) T.c_Tide.cl D_Tide_come (hr.mono (by decide)) (pa_cons (pv 3) pa_nil))))))
    (pss_one (ps_ret (pe_op op_cat (pv 2) (pe_dm0 (pv 1) T.c_Tide.cl D_Tide_drains (hr.mono (by decide))))))))), ?_⟩
  have h60 := hr0.len
  refine sq (st_makeGS (args := fun (_ : Unit) x => [Rf x]) () c ea_nil (fun x => rfl) (fun x dx => rfl) (fun x dx => trivial) (fun x dx b F v h => h) (fun d p dx F H σ _ c _ _ => ?_))
  refine sq (st_nil c (fun q F H σ c _ => ?_))
  have c : Ctx _ F H σ _ [(q, oL (([] : List (Addr × Str3)).map (SrR K))), (d, oD (enA K t00.en)), tO C K p dx d t00] := c
  have c := c.perm (Ω' := (q, oL (([] : List (Addr × Str3)).map (SrR K))) :: tO C K p dx d t00 :: (d, oD (enA K t00.en)) :: ([] : List (Addr × Str3)).map (prO K)) (.cons _ (List.Perm.swap _ _ _))
  refine sq (st_forS (xs := row) (f := Pc K) (fun i : (Td × List (Addr × Str3)) × Option As => [some (Ls K (row.map (Pc K))), some (Rf p), some (Rf q), i.2]) (fun y i => [some (Ls K (row.map (Pc K))), some (Rf p), some (Rf q), some (Pc K y)]) (fun i => (q, oL (i.1.2.map (SrR K))) :: tO C K p dx d i.1.1 :: (d, oD (enA K i.1.1.en)) :: i.1.2.map (prO K)) (fun j i => (i.1.1, i.1.2.map Prod.snd) = fst0 (row.take j) ∧ Fz j (i.1.1, i.1.2.map Prod.snd)) ((t00, []), none) c (src_l (ev_var rfl)) ⟨by rw [List.take_zero]; rfl, fz0⟩ (fun x i => gt_name) ?_ ?_)
  · rintro j ⟨at', who, len, sh⟩ ⟨⟨td, es⟩, o1⟩ G1 F H σ M hk ⟨ei, fz⟩ c hM
    dsimp only at ei fz c
    obtain ⟨acc, eacc⟩ : ∃ acc, es.map Prod.snd = acc := ⟨_, rfl⟩
    have lac := len_snd eacc
    rw [eacc] at ei fz
    have hjl := (List.getElem?_eq_some_iff.mp hk).1
    have hp := hr0.each _ (List.mem_of_getElem? hk)
    have fz' := fz.step (by omega) hp
    have aX : at' ≤ bigX := by have := hp.1.2; unfold bigX; dsimp only at this; omega
    obtain ⟨⟨a0, a1⟩, hl, hs⟩ := hp
    dsimp only at a0 a1 hl hs
    have et : fst0 (row.take (j + 1)) = fstep (td, acc) (at', who, len, sh) := by
      unfold fst0 at ei ⊢
      rw [List.take_succ, hk, List.foldl_append, ← ei]; rfl
    have fl1 := fz.z.ln
    have l3 := fz.ln
    have l1 := rise_len (t := td) (L := (at' : Rat))
    dsimp only at fl1 l3
    have rz := rise_z fz.z (by omega) aX
    have e2 : fstep (td, acc) (at', who, len, sh) = (comeT (rise td (at' : Rat)).1 at' who len sh, acc ++ (rise td (at' : Rat)).2) := by unfold fstep; rfl
    rw [e2] at et fz'
    have rzz := rz.z
    have ren := rz.en
    dsimp only at rzz ren
    refine sq (eg_ext (j := 0) (j2 := fun b : List (Addr × Str3) => (b.map (prO K)).length + 1) (Rs := es.map (SrR K)) c (ev_var rfl) rfl (eg_meth (m := "rises") (j := 1) (Ωr := (q, oL (es.map (SrR K))) :: (d, oD (enA K td.en)) :: es.map (prO K)) ((p, dx, d), (46 * j, j), td, at') (ev_var rfl) rfl rfl (ea_cons (ev_frI (K := K) (ea_cons (ev_ixT (K := K) (ev_var rfl) ev_c rfl) (ea_cons ev_c ea_nil))) ea_nil) rfl (List.Perm.swap _ _ _) ⟨fz.z, by show 46 * j ≤ 4074; omega, by show j ≤ 63; omega, a0, aX⟩ (wr1 (c.wr (j := 1) rfl rfl))) (fun b _ => mid_at) (fun b hb => by
      have := len_snd (show b.map Prod.snd = (rise td (at' : Rat)).2 from hb)
      rw [List.length_map, List.length_map]; omega) (fun b F H hb c _ => ?_) (c.wr (j := 0) rfl rfl))
    have hb : b.map Prod.snd = (rise td (at' : Rat)).2 := hb
    have c : Ctx _ F H _ _ ((tO C K p dx d (rise td (at' : Rat)).1 :: (b.map (prO K) ++ (q, oL (es.map (SrR K))) :: (d, oD (enA K td.en)) :: es.map (prO K))).set ((b.map (prO K)).length + 1) (q, oL (es.map (SrR K) ++ b.map (SrR K)))) := c
    rw [mid_set] at c
    have c := c.perm (.cons _ (List.perm_append_comm.trans (List.Perm.swap _ _ _)))
    obtain ⟨t1, et1⟩ : ∃ t1, (rise td (at' : Rat)).1 = t1 := ⟨_, rfl⟩
    rw [et1] at c rzz ren et fz'
    rw [← ren] at c
    have c : Ctx _ F H _ _ (tO C K p dx d t1 :: (d, oD (enA K t1.en)) :: (q, oL (es.map (SrR K) ++ b.map (SrR K))) :: (es.map (prO K) ++ b.map (prO K))) := c
    rw [← List.map_append, ← List.map_append] at c
    refine em_drop (Ω' := tO C K p dx d (comeT t1 at' who len sh) :: (d, oD (enA K (comeT t1 at' who len sh).en)) :: (q, oL ((es ++ b).map (SrR K))) :: (es ++ b).map (prO K)) c (em_meth (m := "come") (j := 0) (Ωr := (q, oL ((es ++ b).map (SrR K))) :: (es ++ b).map (prO K)) ((p, dx, d), (46 * j + 26, j), t1, (at', who, len, sh)) (ev_var rfl) rfl rfl (ea_cons (ev_var rfl) ea_nil) rfl (List.Perm.refl _) ⟨rzz, by show 46 * j + 26 ≤ 4050; omega, by show j ≤ 62; omega, ⟨a0, aX⟩, hl, hs⟩ rfl (wr2 (c.wr (j := 0) rfl rfl) (c.wr (j := 1) rfl rfl))) (fun F H c _ => ?_)
    have c := c.perm (Ω' := (q, oL ((es ++ b).map (SrR K))) :: tO C K p dx d (comeT t1 at' who len sh) :: (d, oD (enA K (comeT t1 at' who len sh).en)) :: (es ++ b).map (prO K)) ((List.Perm.cons _ (List.Perm.swap _ _ _)).trans (List.Perm.swap _ _ _))
    have ef : (comeT t1 at' who len sh, (es ++ b).map Prod.snd) = (comeT t1 at' who len sh, acc ++ (rise td (at' : Rat)).2) := by rw [List.map_append, hb, eacc]
    exact hM ((comeT t1 at' who len sh, es ++ b), some (Pc K (at', who, len, sh))) F H _ ⟨by rw [et]; exact ef, by show Fz _ (comeT t1 at' who len sh, (es ++ b).map Prod.snd); rw [ef]; exact fz'⟩ c
  · rintro ⟨⟨td, es⟩, o1⟩ F H σ ⟨ei, fz⟩ c
    dsimp only at ei fz c
    obtain ⟨acc, eacc⟩ : ∃ acc, es.map Prod.snd = acc := ⟨_, rfl⟩
    have lac := len_snd eacc
    rw [eacc] at ei fz
    rw [List.take_length] at ei
    have l3 := fz.ln
    have l1 := drain_len (t := td)
    have fl1 := fz.z.ln
    dsimp only at l3 fl1
    have ef : flowS row = acc ++ (drain td).2 := by unfold flowS; rw [← ei]
    dsimp only at hq
    rw [ef] at hq
    refine eg_ret c (eg_cat (K := K) (j2 := fun b : List (Addr × Str3) => (b.map (prO K)).length + 1) (Rs := es.map (SrR K)) (ev_var rfl) (eg_meth (m := "drains") (j := 1) (Ωr := (q, oL (es.map (SrR K))) :: (d, oD (enA K td.en)) :: es.map (prO K)) ((p, dx, d), (46 * row.length, row.length), td) (ev_var rfl) rfl rfl ea_nil rfl (List.Perm.swap _ _ _) ⟨fz.z, by show 46 * row.length ≤ 4100; omega, by show row.length ≤ 63; omega, Rat.le_trans fz.mo (rle (by decide))⟩ (wr1 (c.wr (j := 1) rfl rfl))) (fun b _ => mid_at) (fun b hb => by
      have := len_snd (show b.map Prod.snd = (drain td).2 from hb)
      rw [List.length_map, List.length_map]; omega)) (fun b v F' H' hb c _ r => ?_)
    have hb : b.map Prod.snd = (drain td).2 := hb
    have c : Ctx _ F' H' _ _ (tO C K p dx d (drain td).1 :: (b.map (prO K) ++ (q, oL (es.map (SrR K))) :: (d, oD (enA K td.en)) :: es.map (prO K))) := c
    have c := c.perm (.cons _ List.perm_append_comm)
    have c := c.subl (Ω' := (es ++ b).map (prO K)) (by rw [List.map_append]; exact .cons _ (.cons _ (.cons _ (.refl _))))
    refine hq (es ++ b) v F' H' (by rw [List.map_append, hb, eacc]) c.ext c.sub ?_ c.own c.nd fun x hx => ?_
    · show (Ls K ((es ++ b).map (SrR K))).p F' v
      rw [List.map_append]
      exact r
    · rcases loc_new c rfl x hx with l | l
      · exact absurd l List.not_mem_nil
      · exact .inr l
def sp__law_cell_at (K : PySem.W.Frag) (C : Str → Addr) : Sp := CtF (fun a : List Int × Int => [Ls K (a.1.map fun n => I n), I a.2]) (fun a => 0 ≤ a.2) (fun a => I (cell a.1 a.2))
theorem ok__law_cell_at (T : G K mg C)  : Dn P w K mg base 1 "_law_cell_at" ["_law_script", "_law_k"] (sp__law_cell_at K C) := by
  refine T.d__law_cell_at.ok sc__law_cell_at (by first | exact CtF.len (fun _ => rfl) | exact CtE.len (fun _ => rfl) | exact CtR.len (fun _ => rfl) | exact CtM.len (fun _ => rfl) | exact CtO.len (fun _ => rfl) | exact CtRO.len (fun _ => rfl) | exact CtX.len (fun _ => rfl) | exact CtMX.len (fun _ => rfl) | exact CtME.len (fun _ => rfl) | exact CtG.len (fun _ => rfl) | exact CtOX.len (fun _ => rfl) | exact CtV.len (fun _ => rfl) | exact spOr_len (by first | exact CtR.len (fun _ => rfl) | exact CtM.len (fun _ => rfl) | exact CtG.len (fun _ => rfl) | exact CtF.len (fun _ => rfl) | exact CtRO.len (fun _ => rfl)) (by first | exact CtRO.len (fun _ => rfl) | exact CtN.len (fun _ => rfl) | exact CtR.len (fun _ => rfl) | exact CtG.len (fun _ => rfl) | exact CtM.len (fun _ => rfl)) | exact sp__law_cell_at_len) (fun f cdv A outer s H vs Q E hr h => ?_)
  obtain ⟨⟨ns, k⟩, F, sFH, ha, hp, hq⟩ := h
  have c := ctx_start (N := ["_law_script", "_law_k"]) sFH ha
  refine ⟨_, (pss_cons (ps_if (pt_cmpR op_lt (pv 1) (pe_callB call_len_seq (by rfl) T.b_len (by decide +kernel) (pa_cons (pv 0) pa_nil)) (nomark _))
      (pss_one (ps_ret (pe_ix (show IxR _ (rIxL K) from ix_list) (pv 0) (pv 1) (fun _ _ => rfl))))
      pss_nil)
    (pss_one (ps_ret pe_int))), ?_⟩
  refine sq (st_if c (et_test (ev_I0 (ev_var rfl) (ev_cb (ea_cons (ev_var rfl) ea_nil) rc_lenL))) (fun hb F H c _ => ?_) (fun hb F H c _ => ?_))
  · have hk : k < (ns.length : Int) := by simpa using hb
    exact st_ret c (ev_ixL (ev_var rfl) (ev_var rfl) (atI_ints hp hk)) (fun v F' H' c _ r => hq v F' H' c.ext c.sub r)
  · have hk : ¬ k < (ns.length : Int) := by simpa using hb
    refine nxt (st_ret c ev_c (fun v F' H' c _ r => hq v F' H' c.ext c.sub ?_))
    show v = V.int (cell ns k)
    unfold cell
    rw [if_neg hk]; exact r
def sp__law_mix (K : PySem.W.Frag) (C : Str → Addr) : Sp := CtF (fun a : Int × Int => [I a.1, I a.2]) (fun a => 1 ≤ a.2 ∧ a.2 ≤ 100) (fun a => I (mixB a.1 a.2))
theorem ok__law_mix (T : G K mg C)  : Dn P w K mg base 1 "_law_mix" ["_law_cell", "_law_k"] (sp__law_mix K C) := by
  refine T.d__law_mix.ok sc__law_mix (by first | exact CtF.len (fun _ => rfl) | exact CtE.len (fun _ => rfl) | exact CtR.len (fun _ => rfl) | exact CtM.len (fun _ => rfl) | exact CtO.len (fun _ => rfl) | exact CtRO.len (fun _ => rfl) | exact CtX.len (fun _ => rfl) | exact CtMX.len (fun _ => rfl) | exact CtME.len (fun _ => rfl) | exact CtG.len (fun _ => rfl) | exact CtOX.len (fun _ => rfl) | exact CtV.len (fun _ => rfl) | exact spOr_len (by first | exact CtR.len (fun _ => rfl) | exact CtM.len (fun _ => rfl) | exact CtG.len (fun _ => rfl) | exact CtF.len (fun _ => rfl) | exact CtRO.len (fun _ => rfl)) (by first | exact CtRO.len (fun _ => rfl) | exact CtN.len (fun _ => rfl) | exact CtR.len (fun _ => rfl) | exact CtG.len (fun _ => rfl) | exact CtM.len (fun _ => rfl)) | exact sp__law_mix_len) (fun f cdv A outer s H vs Q E hr h => ?_)
  obtain ⟨⟨x, k⟩, F, sFH, ha, ⟨h0, h1⟩, hq⟩ := h
  have c := ctx_start (N := ["_law_cell", "_law_k", "_law_base", "_law_left", "_law_step", "_law_number"]) sFH ha
  dsimp only at h0 h1 hq
  refine ⟨_, (pss_cut (ps_if (pt_cmpR op_eq (pe_op op_mod (pe_op op_fdivW (pv 0) pe_int) pe_int) pe_int (nomark _))
      (pss_cons (ps_set (i := 2) sc__law_mix.nd rfl (by first | exact Or.inl rfl | exact Or.inr rfl) (pe_ix (show IxR _ (rIxL K) from ix_list) (pe_lst (pa_cons pe_int (pa_cons (pe_op op_pow pe_int pe_int) pa_nil))) (pe_op op_mod (pe_op op_fdivW (pv 0) pe_int) pe_int) (fun _ _ => rfl)))
      (pss_cons (ps_set (i := 3) sc__law_mix.nd rfl (by first | exact Or.inl rfl | exact Or.inr rfl) (pe_op op_fdivW (pv 0) pe_int))
      (pss_cons (ps_for PassesOwn.never rfl (pi_range1 (by rfl) T.b_range (pa_cons (pe_op op_sub (pv 1) pe_int) pa_nil)) (pg_name (i := 4) sc__law_mix.nd rfl (by first | exact Or.inl rfl | exact Or.inr rfl))
        (pss_one (ps_set (i := 3) sc__law_mix.nd rfl (by first | exact Or.inl rfl | exact Or.inr rfl) (pe_op op_fdivW (pv 3) (pv 2)))))
      (pss_one (ps_if (pt_cmpR op_gt (pv 3) pe_int (nomark _))
        (pss_one (ps_ret (pe_op op_mod (pv 3) (pv 2))))
        pss_nil)))))
      pss_nil)
    (pss_cons (ps_set (i := 5) sc__law_mix.nd rfl (by first | exact Or.inl rfl | exact Or.inr rfl) (pe_op op_add (pe_op op_add (pe_op op_mod (pv 0) pe_int) (pe_op op_mulW pe_int (pv 1))) pe_int))
    (pss_cons (ps_set (i := 5) sc__law_mix.nd rfl (by first | exact Or.inl rfl | exact Or.inr rfl) (pe_op op_mod (pe_op op_add (pe_op op_add (pe_op op_mulW (pv 5) (pv 5)) (pe_op op_mulW pe_int (pv 5))) pe_int) pe_int))
    (pss_one (ps_ret (pe_op op_mod (pe_op op_add (pe_op op_add (pe_op op_mulW (pv 5) (pv 5)) (pe_op op_mulW pe_int (pv 5))) (pv 1)) pe_int)))))), ?_⟩
  obtain ⟨b, hb0⟩ : ∃ b : Int, (if x / 128 % 2 = 0 then (50 : Int) else 1000000000) = b := ⟨_, rfl⟩
  have b0 : 0 < b := by rw [← hb0]; split <;> decide
  have bb : Bt 40 b := by rw [← hb0]; unfold Bt; split <;> decide
  have em : mixB x k = if x / 64 % 2 = 1 ∧ 0 < ldv (x / 256) b (k - 1).toNat then ldv (x / 256) b (k - 1).toNat % b else mix x k := by unfold mixB; rw [hb0]
  refine cut c (fun o : Option As × Option As × Option As => [some (I x), some (I k), o.1, o.2.1, o.2.2, none]) (fun _ => []) (fun _ => ¬ (x / 64 % 2 = 1 ∧ 0 < ldv (x / 256) b (k - 1).toNat)) (fun N hN => ?_) ?_
  · refine st_if c (et_test (ev_eqI (ev_I (ev_I (ev_var rfl) ev_c (by walk_at "y")) ev_c (by walk_at "y")) ev_c)) (fun hb F H c _ => ?_) (fun hb F H c _ => ?_)
    · have h64 : x / 64 % 2 = 1 := by simpa using hb
      refine sq (st_set c (ev_ixLk (lk (ev_lst (K := K) (ea_cons ev_c (ea_cons (ev_k (n := 1000000000) (ev_I ev_c ev_c (by walk_at "y")) (by decide +kernel)) ea_nil)) (show 2 ≤ 1000 by decide))) (ev_I (ev_I (ev_var rfl) ev_c (by walk_at "y")) ev_c (by walk_at "y")) (by exact atI_two _ _ _)) (fun F H σ c _ => ?_))
      simp only [hb0] at c
      refine sq (st_set c (ev_I (ev_var rfl) ev_c (by walk_at "y")) (fun F H σ c _ => ?_))
      refine sq (st_forS (xs := List.range (k - 1).toNat) (f := fun j => I (j : Int)) (fun i : Int × Option As => [some (I x), some (I k), some (I b), some (I i.1), i.2, none]) (fun y i => [some (I x), some (I k), some (I b), some (I i.1), some (I (y : Int)), none]) (fun _ => []) (fun j i => i.1 = ldv (x / 256) b j) (x / 256, none) c (src_r1 (ea_cons (ev_I0 (ev_var rfl) ev_c) ea_nil) (by exact by omega) (by exact by omega)) rfl (fun x i => gt_name) ?_ ?_)
      · rintro j y ⟨l, o⟩ G1 F H σ N hk e c hN
        dsimp only at e
        refine st_set c (ev_I (ev_var rfl) (ev_var rfl) (by exact bb.divW b0)) (fun F H σ c _ => ?_)
        exact hN (l / b, some (I (y : Int))) F H σ (by dsimp only; rw [e]; rfl) c
      · rintro ⟨l, o⟩ F H σ e c
        dsimp only at e
        rw [List.length_range] at e
        refine st_if c (et_test (ev_I0 (ev_var rfl) ev_c)) (fun hb F H c _ => ?_) (fun hb F H c _ => ?_)
        · have hl : 0 < l := by simpa using hb
          refine st_ret c (ev_I (ev_var rfl) (ev_var rfl) (by exact b0)) (fun v F' H' c _ r => hq v F' H' c.ext c.sub ?_)
          show v = V.int (mixB x k)
          rw [em, ← e, if_pos ⟨h64, hl⟩]
          exact r
        · have hl : ¬ 0 < l := by simpa using hb
          exact nxt (hN (some (I b), some (I l), o) F H _ (by rw [← e]; exact fun z => hl z.2) c)
    · have h64 : ¬ x / 64 % 2 = 1 := by simpa using hb
      exact nxt (hN (none, none, none) F H _ (fun z => h64 z.1) c)
  rintro ⟨o1, o2, o3⟩ F H σ hnc c
  rw [if_neg hnc] at em
  have bk : Bt 7 k := by unfold Bt; omega
  have b1 : Bt 31 (x % 2147483647) := by unfold Bt; omega
  have b7 : Bt 13 7919 := by unfold Bt; decide
  have b4 : Bt 16 48271 := by unfold Bt; decide
  have b6 : Bt 17 69621 := by unfold Bt; decide
  refine sq (st_set c (ev_I0 (ev_I0 (ev_I (ev_var rfl) ev_c (by walk_at "y")) (ev_I ev_c (ev_var rfl) (by exact b7.mulW bk))) ev_c) (fun F H σ c _ => ?_))
  obtain ⟨n, hn⟩ : ∃ n, x % 2147483647 + 7919 * k + 1 = n := ⟨_, rfl⟩
  have bn : Bt 32 n := by unfold Bt; omega
  simp only [hn] at c
  refine sq (st_set c (ev_I (ev_I0 (ev_I0 (ev_I (ev_var rfl) (ev_var rfl) (by exact bn.mulW bn)) (ev_I ev_c (ev_var rfl) (by exact b4.mulW bn))) ev_c) ev_c (by walk_at "y")) (fun F H σ c _ => ?_))
  obtain ⟨m, hm⟩ : ∃ m, (n * n + 48271 * n + 11) % 2147483647 = m := ⟨_, rfl⟩
  have bm : Bt 31 m := by unfold Bt; omega
  simp only [hm] at c
  refine st_ret c (ev_I (ev_I0 (ev_I0 (ev_I (ev_var rfl) (ev_var rfl) (by exact bm.mulW bm)) (ev_I ev_c (ev_var rfl) (by exact b6.mulW bm))) (ev_var rfl)) ev_c (by walk_at "y")) (fun v F' H' c _ r => hq v F' H' c.ext c.sub ?_)
  have e : mix x k = (m * m + 69621 * m + k) % 2147483647 := by
    unfold mix
    dsimp only
    rw [hn, hm]
  show v = V.int (mixB x k)
  rw [em, e]
  exact r
def sp__law_row (K : PySem.W.Frag) (C : Str → Addr) : Sp := CtF (fun a : List Int => [Ls K (a.map fun n => I n)]) (fun _ => True) (fun _ => Xs (GoodRow 12 60) (fun row : List Pie => Ls K (row.map (Pc K))))
theorem ok__law_row (T : G K mg C) (D__law_cell_at : Dn P w K mg base 1 "_law_cell_at" ["_law_script", "_law_k"] (sp__law_cell_at K C)) (D__law_mix : Dn P w K mg base 1 "_law_mix" ["_law_cell", "_law_k"] (sp__law_mix K C)) : Dn P w K mg base 2 "_law_row" ["_law_script"] (sp__law_row K C) := by
  refine T.d__law_row.ok sc__law_row (by first | exact CtF.len (fun _ => rfl) | exact CtE.len (fun _ => rfl) | exact CtR.len (fun _ => rfl) | exact CtM.len (fun _ => rfl) | exact CtO.len (fun _ => rfl) | exact CtRO.len (fun _ => rfl) | exact CtX.len (fun _ => rfl) | exact CtMX.len (fun _ => rfl) | exact CtME.len (fun _ => rfl) | exact CtG.len (fun _ => rfl) | exact CtOX.len (fun _ => rfl) | exact CtV.len (fun _ => rfl) | exact spOr_len (by first | exact CtR.len (fun _ => rfl) | exact CtM.len (fun _ => rfl) | exact CtG.len (fun _ => rfl) | exact CtF.len (fun _ => rfl) | exact CtRO.len (fun _ => rfl)) (by first | exact CtRO.len (fun _ => rfl) | exact CtN.len (fun _ => rfl) | exact CtR.len (fun _ => rfl) | exact CtG.len (fun _ => rfl) | exact CtM.len (fun _ => rfl)) | exact sp__law_row_len) (fun f cdv A outer s H vs Q E hr h => ?_)
  obtain ⟨ns, F, sFH, ha, hp, hq⟩ := h
  have c := ctx_start (N := ["_law_script", "_law_first", "_law_way", "_law_most", "_law_shares", "_law_gaps", "_law_few", "_law_cells", "_law_at", "_law_row_here", "_law_cell", "_law_who"]) sFH ha
  refine ⟨_, (pss_cons (ps_set (i := 1) sc__law_row.nd rfl (by first | exact Or.inl rfl | exact Or.inr rfl) (pe_d D__law_cell_at (hr.mono (by decide)) (by rfl) (pa_cons (pv 0) (pa_cons pe_int pa_nil))))
    (pss_cons (ps_set (i := 2) sc__law_row.nd rfl (by first | exact Or.inl rfl | exact Or.inr rfl) (pe_op op_mod (pv 1) pe_int))
    (pss_cons (ps_set (i := 3) sc__law_row.nd rfl (by first | exact Or.inl rfl | exact Or.inr rfl) (pe_ix (show IxR _ (rIxL K) from ix_list) (pe_lst (pa_cons pe_int (pa_cons pe_int (pa_cons (pe_op op_pow pe_int pe_int) (pa_cons pe_int pa_nil))))) (pv 2) (fun _ _ => rfl)))
    (pss_cons (ps_set (i := 4) sc__law_row.nd rfl (by first | exact Or.inl rfl | exact Or.inr rfl) (pe_ix (show IxR _ (rIxL K) from ix_list) (pe_lst (pa_cons pe_int (pa_cons pe_int (pa_cons (pe_op op_pow pe_int pe_int) (pa_cons pe_int pa_nil))))) (pv 2) (fun _ _ => rfl)))
    (pss_cons (ps_set (i := 5) sc__law_row.nd rfl (by first | exact Or.inl rfl | exact Or.inr rfl) (pe_ix (show IxR _ (rIxL K) from ix_list) (pe_lst (pa_cons pe_int (pa_cons pe_int (pa_cons (pe_op op_add (pv 3) pe_int) pa_nil)))) (pe_op op_mod (pe_op op_fdivW (pv 1) pe_int) pe_int) (fun _ _ => rfl)))
    (pss_cons (ps_set (i := 6) sc__law_row.nd rfl (by first | exact Or.inl rfl | exact Or.inr rfl) (pe_op op_add pe_int (pe_op op_mod (pe_op op_fdivW (pv 1) pe_int) (pe_ix (show IxR _ (rIxL K) from ix_list) (pe_lst (pa_cons pe_int (pa_cons pe_int (pa_cons pe_int (pa_cons pe_int pa_nil))))) (pv 2) (fun _ _ => rfl)))))
    (pss_cons (ps_set (i := 7) sc__law_row.nd rfl (by first | exact Or.inl rfl | exact Or.inr rfl) (pe_slice sl_list (pv 0) (po_some pe_int) (po_some (pe_ix (show IxR _ (rIxL K) from ix_list) (pe_lst (pa_cons pe_int (pa_cons pe_int (pa_cons pe_int (pa_cons pe_int pa_nil))))) (pv 2) (fun _ _ => rfl)))))
    (pss_cut (ps_if (PW.pt (pw_and (pt_cmpR op_eq (pv 2) pe_int (nomark _)) (pw_and1 (pt_cmpR op_eq (pe_op op_mod (pe_op op_fdivW (pv 1) pe_int) pe_int) pe_int (nomark _)))))
      (pss_cons (ps_set (i := 6) sc__law_row.nd rfl (by first | exact Or.inl rfl | exact Or.inr rfl) (pe_op op_add pe_int (pe_op op_mod (pe_op op_fdivW (pv 1) pe_int) pe_int)))
      (pss_one (ps_set (i := 7) sc__law_row.nd rfl (by first | exact Or.inl rfl | exact Or.inr rfl) (pe_slice sl_list (pe_op op_rep (pe_slice sl_list (pv 0) (po_some pe_int) (po_some pe_int)) pe_int) po_none (po_some pe_int)))))
      pss_nil)
    (pss_cons (ps_set (i := 8) sc__law_row.nd rfl (by first | exact Or.inl rfl | exact Or.inr rfl) pe_int)
    (pss_cons (ps_set (i := 9) sc__law_row.nd rfl (by first | exact Or.inl rfl | exact Or.inr rfl) (pe_lst pa_nil))
    (pss_cons (ps_for PassesOwn.never rfl (pi_list (pv 7)) (pg_name (i := 10) sc__law_row.nd rfl (by first | exact Or.inl rfl | exact Or.inr rfl))
      (pss_cons (ps_set (i := 8) sc__law_row.nd rfl (by first | exact Or.inl rfl | exact Or.inr rfl) (pe_op op_add (pv 8) (pe_op op_mod (pe_d D__law_mix (hr.mono (by decide)) (by rfl) (pa_cons (pv 10) (pa_cons pe_int pa_nil))) (pv 5))))
      (pss_cons (ps_set (i := 11) sc__law_row.nd rfl (by first | exact Or.inl rfl | exact Or.inr rfl) (pe_op op_mod (pe_op op_add (pe_op op_mulW (pe_op op_mod (pe_d D__law_mix (hr.mono (by decide)) (by rfl) (pa_cons (pv 10) (pa_cons pe_int pa_nil))) (pv 6)) pe_int) (pe_op op_fdivW (pv 1) pe_int)) pe_int))
      (pss_one (ps_expr (pe_bm PySem.F.plainAttrs_list PySem.F.slot_list_append PySem.F.type_list_append mt_append (pv 9) (pa_cons (pe_tup (pa_cons (pv 8) (pa_cons (pv 11) (pa_cons (pe_op op_add pe_int (pe_op op_mod (pe_d D__law_mix (hr.mono (by decide)) (by rfl) (pa_cons (pv 10) (pa_cons pe_int pa_nil))) (pv 3))) (pa_cons (pe_op op_add pe_int (pe_op op_mod (pe_d D__law_mix (hr.mono (by decide)) (by rfl) (pa_cons (pv 10) (pa_cons pe_int pa_nil))) (pv 4))) pa_nil))))) pa_nil)))))))
    (pss_one (ps_ret (pv 9)))))))))))))), ?_⟩
  refine sq (st_set c (ev_call (_, _) (ea_cons (ev_var rfl) (ea_cons ev_c ea_nil)) (by walk_at "y")) (fun F H σ c _ => ?_))
  obtain ⟨x, hx⟩ : ∃ x, cell ns 0 = x := ⟨_, rfl⟩
  simp only [hx] at c
  refine sq (st_set c (ev_I (ev_var rfl) ev_c (by walk_at "y")) (fun F H σ c _ => ?_))
  refine sq (st_set c (ev_ixLk (lk (ev_lst (K := K) (ea_cons ev_c (ea_cons ev_c (ea_cons (ev_k (n := 1000000) (ev_I ev_c ev_c (by walk_at "y")) (by decide +kernel)) (ea_cons ev_c ea_nil)))) (show 4 ≤ 1000 by decide))) (ev_var rfl) (by exact atI_four _ _ _ _ _)) (fun F H σ c _ => ?_))
  obtain ⟨mo, hmo⟩ : ∃ m : Int, (if x % 4 = 0 then (9 : Int) else if x % 4 = 1 then 1000 else if x % 4 = 2 then 1000000 else 9) = m := ⟨_, rfl⟩
  have mo1 : 0 < mo := by rw [← hmo]; split; decide; split; decide; split <;> decide
  have mo2 : mo ≤ 1000000 := by rw [← hmo]; split; decide; split; decide; split <;> decide
  simp only [hmo] at c
  refine sq (st_set c (ev_ixLk (lk (ev_lst (K := K) (ea_cons ev_c (ea_cons ev_c (ea_cons (ev_k (n := 1000000) (ev_I ev_c ev_c (by walk_at "y")) (by decide +kernel)) (ea_cons ev_c ea_nil)))) (show 4 ≤ 1000 by decide))) (ev_var rfl) (by exact atI_four _ _ _ _ _)) (fun F H σ c _ => ?_))
  obtain ⟨sh, hsh⟩ : ∃ m : Int, (if x % 4 = 0 then (9 : Int) else if x % 4 = 1 then 50 else if x % 4 = 2 then 1000000 else 1) = m := ⟨_, rfl⟩
  have sh1 : 0 < sh := by rw [← hsh]; split; decide; split; decide; split <;> decide
  have sh2 : sh ≤ 1000000 := by rw [← hsh]; split; decide; split; decide; split <;> decide
  simp only [hsh] at c
  refine sq (st_set c (ev_ixLk (lk (ev_lst (K := K) (ea_cons ev_c (ea_cons ev_c (ea_cons (ev_I0 (ev_var rfl) ev_c) ea_nil))) (show 3 ≤ 1000 by decide))) (ev_I (ev_I (ev_var rfl) ev_c (by walk_at "y")) ev_c (by walk_at "y")) (by exact atI_three _ _ _ _)) (fun F H σ c _ => ?_))
  obtain ⟨ga, hga⟩ : ∃ m : Int, (if x / 4 % 3 = 0 then (3 : Int) else if x / 4 % 3 = 1 then 40 else mo + 1) = m := ⟨_, rfl⟩
  have ga1 : 0 < ga := by rw [← hga]; split; decide; split; decide; omega
  have ga2 : ga ≤ 1000001 := by rw [← hga]; split; decide; split; decide; omega
  simp only [hga] at c
  obtain ⟨fw, hfw⟩ : ∃ m : Int, (if x % 4 = 0 then (6 : Int) else if x % 4 = 1 then 6 else if x % 4 = 2 then 6 else 12) = m := ⟨_, rfl⟩
  have fw1 : 0 < fw := by rw [← hfw]; split; decide; split; decide; split <;> decide
  have fw2 : fw ≤ 12 := by rw [← hfw]; split; decide; split; decide; split <;> decide
  refine sq (st_set c (ev_I0 ev_c (ev_I (ev_I (ev_var rfl) ev_c (by walk_at "y")) (ev_ixLk (lk (ev_lst (K := K) (ea_cons ev_c (ea_cons ev_c (ea_cons ev_c (ea_cons ev_c ea_nil)))) (show 4 ≤ 1000 by decide))) (ev_var rfl) (by exact atI_four _ _ _ _ _)) (by exact by rw [hfw]; exact fw1))) (fun F H σ c _ => ?_))
  simp only [hfw] at c
  have e1 := Int.emod_nonneg (x / 12) (Int.ne_of_gt fw1)
  have e2 := Int.emod_lt_of_pos (x / 12) fw1
  obtain ⟨few0, hfew⟩ : ∃ m : Int, 1 + x / 12 % fw = m := ⟨_, rfl⟩
  have few01 : 0 < few0 := by omega
  have few02 : few0 ≤ 12 := by omega
  simp only [hfew] at c
  obtain ⟨m, hm, hm9⟩ : ∃ m : Nat, (if x % 4 = 0 then (17 : Int) else if x % 4 = 1 then 17 else if x % 4 = 2 then 9 else 41) = (m : Int) ∧ m ≤ 41 := by
    split
    · exact ⟨17, rfl, by decide⟩
    · split
      · exact ⟨17, rfl, by decide⟩
      · split
        · exact ⟨9, rfl, by decide⟩
        · exact ⟨41, rfl, by decide⟩
  refine sq (st_set (R := Ls K (((ns.drop 1).take (m - 1)).map fun n => I n)) c (ev_ls2 (Rs' := ((ns.drop 1).take (m - 1)).map fun n => I n) (ev_slLk (lk (ev_var rfl)) (eo_some ev_c) (eo_some (ev_k (n := (m : Int)) (ev_ixLk (lk (ev_lst (K := K) (ea_cons ev_c (ea_cons ev_c (ea_cons ev_c (ea_cons ev_c ea_nil)))) (show 4 ≤ 1000 by decide))) (ev_var rfl) (by exact atI_four _ _ _ _ _)) hm))) cutA_from) (fun F H σ c _ => ?_))
  refine cut c (fun e : Int × List Int => [some (Ls K (ns.map fun n => I n)), some (I x), some (I (x % 4)), some (I mo), some (I sh), some (I ga), some (I e.1), some (Ls K (e.2.map fun n => I n)), none, none, none, none]) (fun _ => []) (fun e => 0 < e.1 ∧ e.1 ≤ 12 ∧ e.2.length ≤ 60) (fun N hN => ?_) ?_
  · refine st_if c (et_and (et_test (ev_eqI (ev_var rfl) ev_c)) (fun hb => (et_test (ev_eqI (ev_I (ev_I (ev_var rfl) ev_c (by walk_at "y")) ev_c (by walk_at "y")) ev_c)))) (fun hb F H c _ => ?_) (fun hb F H c _ => ?_)
    · have f1 := Int.emod_nonneg (x / 12) (show (6 : Int) ≠ 0 by decide)
      have f2 := Int.emod_lt_of_pos (x / 12) (show (0 : Int) < 6 by decide)
      refine sq (st_set c (ev_I0 ev_c (ev_I (ev_I (ev_var rfl) ev_c (by walk_at "y")) ev_c (by walk_at "y"))) (fun F H σ c _ => ?_))
      refine st_set (R := Ls K ((((List.replicate 60 ((ns.drop 1).take 60)).flatten).take 60).map fun n => I n)) c (ev_ls2 (Rs' := (((List.replicate 60 ((ns.drop 1).take 60)).flatten).take 60).map fun n => I n) (ev_slLk (lk (ev_ls2 (Rs' := ((List.replicate 60 ((ns.drop 1).take 60)).flatten).map fun n => I n) (ev_repN (Rs := ((ns.drop 1).take 60).map fun n => I n) (k := 60) (eo_is (eo_sl (K := K) (lk (ev_var rfl)) (eo_some ev_c) (eo_some ev_c)) (congrArg oL (cutA_from (j := 1) (k := 61)))) (fun p => ev_c) (by decide) (by decide) (by rw [List.length_map, List.length_take]; show min 60 _ * 60 ≤ 100000; omega)) cells_rep)) eo_none (eo_some ev_c)) (cutA_to (k := 60))) (fun F H σ c _ => ?_)
      exact hN (1 + x / 12 % 6, ((List.replicate 60 ((ns.drop 1).take 60)).flatten).take 60) F H σ ⟨by dsimp only; omega, by dsimp only; omega, by dsimp only; rw [List.length_take]; omega⟩ c
    · exact nxt (hN (few0, (ns.drop 1).take (m - 1)) F H _ ⟨few01, few02, by dsimp only; rw [List.length_take]; omega⟩ c)
  rintro ⟨few, cs⟩ F H σ ⟨few1, few2, hcs⟩ c
  dsimp only at few1 few2 hcs c
  refine sq (st_set c ev_c (fun F H σ c _ => ?_))
  refine sq (st_nil c (fun p F H σ c _ => ?_))
  refine sq (st_forS (xs := cs) (f := fun n => I n) (fun i : Int × List Pie × Option As × Option As => [some (Ls K (ns.map fun n => I n)), some (I x), some (I (x % 4)), some (I mo), some (I sh), some (I ga), some (I few), some (Ls K (cs.map fun n => I n)), some (I i.1), some (Rf p), i.2.2.1, i.2.2.2]) (fun y i => [some (Ls K (ns.map fun n => I n)), some (I x), some (I (x % 4)), some (I mo), some (I sh), some (I ga), some (I few), some (Ls K (cs.map fun n => I n)), some (I i.1), some (Rf p), some (I y), i.2.2.2]) (fun i => [(p, oL (i.2.1.map (Pc K)))]) (fun k i => GoodN 12 k i.1 i.2.1) (0, [], none, none) c (src_l (ev_var rfl)) ⟨rfl, fun _ h => absurd h List.not_mem_nil, List.Pairwise.nil, by decide, by decide⟩ (fun x i => gt_name) ?_ ?_)
  · rintro k y ⟨t, row, o1, o2⟩ G1 F H σ N hk pg c hN
    dsimp only at pg
    have hkl := (List.getElem?_eq_some_iff.mp hk).1
    have hl : (row.map (Pc K)).length ≤ 100000 := by rw [List.length_map, pg.1]; omega
    have d0 := Int.emod_nonneg (mixB y 1) (Int.ne_of_gt ga1)
    have d1 := Int.emod_lt_of_pos (mixB y 1) ga1
    refine sq (st_set c (ev_I0 (ev_var rfl) (ev_I (ev_call (_, _) (ea_cons (ev_var rfl) (ea_cons ev_c ea_nil)) (by walk_at "y")) (ev_var rfl) (by exact ga1))) (fun F H σ c _ => ?_))
    have bfw := Int.emod_nonneg (mixB y 2) (Int.ne_of_gt few1)
    have bfw2 := Int.emod_lt_of_pos (mixB y 2) few1
    have bf5 : Bt 10 (mixB y 2 % few) := by unfold Bt; omega
    refine sq (st_set c (ev_I (ev_I0 (ev_I (ev_I (ev_call (_, _) (ea_cons (ev_var rfl) (ea_cons ev_c ea_nil)) (by walk_at "y")) (ev_var rfl) (by exact few1)) ev_c (by exact bf5.mulW (show Bt 3 5 by unfold Bt; decide))) (ev_I (ev_var rfl) ev_c (by walk_at "y"))) ev_c (by walk_at "y")) (fun F H σ c _ => ?_))
    have w0 := Int.emod_nonneg (mixB y 2 % few * 5 + x / 72) (show (12 : Int) ≠ 0 by decide)
    have w1 := Int.emod_lt_of_pos (mixB y 2 % few * 5 + x / 72) (show (0 : Int) < 12 by decide)
    obtain ⟨d, hd⟩ : ∃ d, mixB y 1 % ga = d := ⟨_, rfl⟩
    obtain ⟨w, hw⟩ : ∃ d, (mixB y 2 % few * 5 + x / 72) % 12 = d := ⟨_, rfl⟩
    simp only [hd, hw] at c
    refine st_app c (ev_var rfl) (j := 0) rfl (ev_pc (K := K) (ea_cons (ev_var rfl) (ea_cons (ev_var rfl) (ea_cons (ev_I0 ev_c (ev_I (ev_call (_, _) (ea_cons (ev_var rfl) (ea_cons ev_c ea_nil)) (by walk_at "y")) (ev_var rfl) (by exact mo1))) (ea_cons (ev_I0 ev_c (ev_I (ev_call (_, _) (ea_cons (ev_var rfl) (ea_cons ev_c ea_nil)) (by walk_at "y")) (ev_var rfl) (by exact sh1))) ea_nil))))) hl (fun F H c _ => ?_)
    have e3 := Int.emod_nonneg (mixB y 3) (Int.ne_of_gt mo1)
    have e4 := Int.emod_lt_of_pos (mixB y 3) mo1
    have e5 := Int.emod_nonneg (mixB y 4) (Int.ne_of_gt sh1)
    have e6 := Int.emod_lt_of_pos (mixB y 4) sh1
    have gg := pg.turn (d := d) (w := w) (l := 1 + mixB y 3 % mo) (s := 1 + mixB y 4 % sh) (by omega) (by omega) (by omega) (by omega) (by omega) (by omega) (by omega) (by omega)
    refine hN (t + d, row ++ [(t + d, w, 1 + mixB y 3 % mo, 1 + mixB y 4 % sh)], some (I y), some (I w)) F H σ gg ?_
    rw [List.map_append]
    exact c
  · rintro ⟨t, row, o1, o2⟩ F H σ pg c
    dsimp only at pg
    refine st_retL (K := K) (j := 0) c (ev_var rfl) rfl rdL rfl (fun v F' H' c _ r => hq v F' H' c.ext c.sub ⟨row, ?_, r⟩)
    obtain ⟨h1, h2, h3, h4, h5⟩ := pg
    exact ⟨by omega, fun q hq => by have := h2 q hq; omega, h3⟩
def sp__law_divisor (K : PySem.W.Frag) (C : Str → Addr) : Sp := CtF (fun a : Int × Int => [I a.1, I a.2]) (fun a => 0 ≤ a.2) (fun a => I (Int.gcd a.1 a.2 : Int))
theorem ok__law_divisor (T : G K mg C)  : Dn P w K mg base 1 "_law_divisor" ["_law_one", "_law_other"] (sp__law_divisor K C) := by
  refine T.d__law_divisor.ok sc__law_divisor (by first | exact CtF.len (fun _ => rfl) | exact CtE.len (fun _ => rfl) | exact CtR.len (fun _ => rfl) | exact CtM.len (fun _ => rfl) | exact CtO.len (fun _ => rfl) | exact CtRO.len (fun _ => rfl) | exact CtX.len (fun _ => rfl) | exact CtMX.len (fun _ => rfl) | exact CtME.len (fun _ => rfl) | exact CtG.len (fun _ => rfl) | exact CtOX.len (fun _ => rfl) | exact CtV.len (fun _ => rfl) | exact spOr_len (by first | exact CtR.len (fun _ => rfl) | exact CtM.len (fun _ => rfl) | exact CtG.len (fun _ => rfl) | exact CtF.len (fun _ => rfl) | exact CtRO.len (fun _ => rfl)) (by first | exact CtRO.len (fun _ => rfl) | exact CtN.len (fun _ => rfl) | exact CtR.len (fun _ => rfl) | exact CtG.len (fun _ => rfl) | exact CtM.len (fun _ => rfl)) | exact sp__law_divisor_len) (fun f cdv A outer s H vs Q E hr h => ?_)
  obtain ⟨⟨x, y⟩, F, sFH, ha, hy, hq⟩ := h
  have c := ctx_start (N := ["_law_one", "_law_other"]) sFH ha
  dsimp only at hy hq
  refine ⟨_, (pss_cons (ps_while PassesOwn.never (pt_cmpR op_ne (pv 1) pe_int (nomark _))
      (pss_one (ps_par (i := 0) (j := 1) (by rfl) sc__law_divisor.nd rfl rfl (by decide) rfl rfl (pa_cons (pv 1) (pa_cons (pe_op op_mod (pv 0) (pv 1)) pa_nil)) (by rfl))))
    (pss_one (ps_ret (pe_callB call_abs (by rfl) T.b_abs (by decide +kernel) (pa_cons (pv 0) pa_nil))))), ?_⟩
  refine sq (st_while (fun i : Int × Int => [some (I i.1), some (I i.2)]) (fun _ => []) (fun i => 0 ≤ i.2 ∧ Int.gcd i.1 i.2 = Int.gcd x y) (fun i => i.2.toNat) (fun i => !decide (i.2 = 0)) (x, y) c ⟨hy, rfl⟩ (fun i _ => (et_test (ev_neI (ev_var rfl) ev_c))) ?_ ?_)
  · rintro ⟨u, v⟩ F H σ N ⟨h2, h3⟩ hb c hN
    dsimp only at h2 h3
    have hv' : ¬ v = 0 := by simpa using hb
    have hv : 0 < v := by omega
    refine st_par c (ea_cons (ev_var rfl) (ea_cons (ev_I (ev_var rfl) (ev_var rfl) (by exact hv)) ea_nil)) (fun F H σ c _ => ?_)
    have hm := Int.emod_nonneg u (Int.ne_of_gt hv)
    have hm2 := Int.emod_lt_of_pos u hv
    exact hN (v, u % v) F H σ ⟨hm, (gcd_turnA u v).trans h3⟩ (by show (u % v).toNat < v.toNat; omega) c
  · rintro ⟨u, v⟩ F H σ ⟨h2, h3⟩ hb c
    dsimp only at h2 h3
    have hv0 : v = 0 := by simpa using hb
    subst hv0
    refine st_ret c (ev_cb (ea_cons (ev_var rfl) ea_nil) rc_abs) (fun v F' H' c _ r => hq v F' H' c.ext c.sub ?_)
    have z : (Int.gcd x y : Int) = (u.natAbs : Int) := by rw [← h3]; simp
    show v = V.int (Int.gcd x y : Int)
    rw [z]; exact r
def sp__law_lowest (K : PySem.W.Frag) (C : Str → Addr) : Sp := CtF (fun a : Int × Int => [I a.1, I a.2]) (fun a => 0 < a.2 ∧ Bt 8990 a.2) (fun a => Fq K (Rat.divInt a.1 a.2))
theorem ok__law_lowest (T : G K mg C) (D__law_divisor : Dn P w K mg base 1 "_law_divisor" ["_law_one", "_law_other"] (sp__law_divisor K C)) : Dn P w K mg base 2 "_law_lowest" ["_law_top", "_law_bottom"] (sp__law_lowest K C) := by
  refine T.d__law_lowest.ok sc__law_lowest (by first | exact CtF.len (fun _ => rfl) | exact CtE.len (fun _ => rfl) | exact CtR.len (fun _ => rfl) | exact CtM.len (fun _ => rfl) | exact CtO.len (fun _ => rfl) | exact CtRO.len (fun _ => rfl) | exact CtX.len (fun _ => rfl) | exact CtMX.len (fun _ => rfl) | exact CtME.len (fun _ => rfl) | exact CtG.len (fun _ => rfl) | exact CtOX.len (fun _ => rfl) | exact CtV.len (fun _ => rfl) | exact spOr_len (by first | exact CtR.len (fun _ => rfl) | exact CtM.len (fun _ => rfl) | exact CtG.len (fun _ => rfl) | exact CtF.len (fun _ => rfl) | exact CtRO.len (fun _ => rfl)) (by first | exact CtRO.len (fun _ => rfl) | exact CtN.len (fun _ => rfl) | exact CtR.len (fun _ => rfl) | exact CtG.len (fun _ => rfl) | exact CtM.len (fun _ => rfl)) | exact sp__law_lowest_len) (fun f cdv A outer s H vs Q E hr h => ?_)
  obtain ⟨⟨t, b⟩, F, sFH, ha, ⟨h1, h2⟩, hq⟩ := h
  have c := ctx_start (N := ["_law_top", "_law_bottom", "_law_shared"]) sFH ha
  dsimp only at h1 h2 hq
  refine ⟨_, (pss_cons (ps_set (i := 2) sc__law_lowest.nd rfl (by first | exact Or.inl rfl | exact Or.inr rfl) (pe_d D__law_divisor (hr.mono (by decide)) (by rfl) (pa_cons (pv 0) (pa_cons (pv 1) pa_nil))))
    (pss_one (ps_ret (pe_tup (pa_cons (pe_op op_fdivW (pv 0) (pv 2)) (pa_cons (pe_op op_fdivW (pv 1) (pv 2)) pa_nil)))))), ?_⟩
  have bn : b ≠ 0 := by omega
  refine sq (st_set c (ev_call (_, _) (ea_cons (ev_var rfl) (ea_cons (ev_var rfl) ea_nil)) (by exact Int.le_of_lt h1)) (fun F H σ c _ => ?_))
  have g1 := gcd_pos (x := t) bn
  have g2 := gcd_bt (x := t) h2 bn
  exact st_ret c (ev_fq (ev_fr (K := K) (ea_cons (ev_I (ev_var rfl) (ev_var rfl) (by exact g2.divW g1)) (ea_cons (ev_I (ev_var rfl) (ev_var rfl) (by exact g2.divW g1)) ea_nil))) (fr_of t b h1)) (fun v F' H' c _ r => hq v F' H' c.ext c.sub r)
def sp__law_whole (K : PySem.W.Frag) (C : Str → Addr) : Sp := CtF (fun a : Int => [I a]) (fun _ => True) (fun _ => B true)
theorem ok__law_whole (T : G K mg C)  : Dn P w K mg base 1 "_law_whole" ["_law_found"] (sp__law_whole K C) := by
  refine T.d__law_whole.ok sc__law_whole (by first | exact CtF.len (fun _ => rfl) | exact CtE.len (fun _ => rfl) | exact CtR.len (fun _ => rfl) | exact CtM.len (fun _ => rfl) | exact CtO.len (fun _ => rfl) | exact CtRO.len (fun _ => rfl) | exact CtX.len (fun _ => rfl) | exact CtMX.len (fun _ => rfl) | exact CtME.len (fun _ => rfl) | exact CtG.len (fun _ => rfl) | exact CtOX.len (fun _ => rfl) | exact CtV.len (fun _ => rfl) | exact spOr_len (by first | exact CtR.len (fun _ => rfl) | exact CtM.len (fun _ => rfl) | exact CtG.len (fun _ => rfl) | exact CtF.len (fun _ => rfl) | exact CtRO.len (fun _ => rfl)) (by first | exact CtRO.len (fun _ => rfl) | exact CtN.len (fun _ => rfl) | exact CtR.len (fun _ => rfl) | exact CtG.len (fun _ => rfl) | exact CtM.len (fun _ => rfl)) | exact sp__law_whole_len) (fun f cdv A outer s H vs Q E hr h => ?_)
  obtain ⟨n, F, sFH, ha, hp, hq⟩ := h
  have c := ctx_start (N := ["_law_found"]) sFH ha
  refine ⟨_, (pss_one (ps_ret (pe_and (pe_callB call_isi (by rfl) T.b_isinstance (by decide +kernel) (pa_cons (pv 0) (pa_cons (pe_bltn (by rfl) T.b_int (u := .type "int") (v := .ty "int") (by decide +kernel) rfl) pa_nil))) (pe_one (pe_not (pe_callB call_isi (by rfl) T.b_isinstance (by decide +kernel) (pa_cons (pv 0) (pa_cons (pe_bltn (by rfl) T.b_bool (u := .type "bool") (v := .ty "bool") (by decide +kernel) rfl) pa_nil)))))))), ?_⟩
  exact st_ret c (ev_andV (ev_cb (ea_cons (ev_var rfl) (ea_cons ev_c ea_nil)) (rc_isi (.ty _) (by walk_at "ty") (kit_ty (r := true) rfl))) (fun hb => (ev_notV (ev_cb (ea_cons (ev_var rfl) (ea_cons ev_c ea_nil)) (rc_isi (.ty _) (by walk_at "ty") (kit_ty (r := false) rfl)))))) (fun v F' H' c _ r => hq v F' H' c.ext c.sub r)
def sp__law_fraction (K : PySem.W.Frag) (C : Str → Addr) : Sp := CtF (fun a : Rat => [Fq K a]) (fun _ => True) (fun _ => B true)
theorem ok__law_fraction (T : G K mg C) (D__law_whole : Dn P w K mg base 1 "_law_whole" ["_law_found"] (sp__law_whole K C)) (D__law_divisor : Dn P w K mg base 1 "_law_divisor" ["_law_one", "_law_other"] (sp__law_divisor K C)) : Dn P w K mg base 2 "_law_fraction" ["_law_found"] (sp__law_fraction K C) := by
  refine T.d__law_fraction.ok sc__law_fraction (by first | exact CtF.len (fun _ => rfl) | exact CtE.len (fun _ => rfl) | exact CtR.len (fun _ => rfl) | exact CtM.len (fun _ => rfl) | exact CtO.len (fun _ => rfl) | exact CtRO.len (fun _ => rfl) | exact CtX.len (fun _ => rfl) | exact CtMX.len (fun _ => rfl) | exact CtME.len (fun _ => rfl) | exact CtG.len (fun _ => rfl) | exact CtOX.len (fun _ => rfl) | exact CtV.len (fun _ => rfl) | exact spOr_len (by first | exact CtR.len (fun _ => rfl) | exact CtM.len (fun _ => rfl) | exact CtG.len (fun _ => rfl) | exact CtF.len (fun _ => rfl) | exact CtRO.len (fun _ => rfl)) (by first | exact CtRO.len (fun _ => rfl) | exact CtN.len (fun _ => rfl) | exact CtR.len (fun _ => rfl) | exact CtG.len (fun _ => rfl) | exact CtM.len (fun _ => rfl)) | exact sp__law_fraction_len) (fun f cdv A outer s H vs Q E hr h => ?_)
  obtain ⟨q, F, sFH, ha, hp, hq⟩ := h
  have c := ctx_start (N := ["_law_found"]) sFH ha
  refine ⟨_, (pss_cons (ps_if (PW.pt (pw_or (pt_not (pt_val (pe_callB call_isi (by rfl) T.b_isinstance (by decide +kernel) (pa_cons (pv 0) (pa_cons (pe_bltn (by rfl) T.b_tuple (u := .type "tuple") (v := .ty "tuple") (by decide +kernel) rfl) pa_nil))))) (pw_or1 (pt_cmpR op_ne (pe_callB call_len_seq (by rfl) T.b_len (by decide +kernel) (pa_cons (pv 0) pa_nil)) pe_int (nomark _)))))
      (pss_one (ps_ret pe_bl))
      pss_nil)
    (pss_cons (ps_if (PW.pt (pw_or (pt_not (pt_val (pe_d D__law_whole (hr.mono (by decide)) (by rfl) (pa_cons (pe_ix (show IxR _ (rIxT K) from ix_tup) (pv 0) pe_int (fun _ _ => rfl)) pa_nil)))) (pw_or1 (pt_not (pt_val (pe_d D__law_whole (hr.mono (by decide)) (by rfl) (pa_cons (pe_ix (show IxR _ (rIxT K) from ix_tup) (pv 0) pe_int (fun _ _ => rfl)) pa_nil)))))))
      (pss_one (ps_ret pe_bl))
      pss_nil)
    (pss_one (ps_ret (pe_and (pe_cmpR op_gt (pe_ix (show IxR _ (rIxT K) from ix_tup) (pv 0) pe_int (fun _ _ => rfl)) pe_int (nomark _)) (pe_one (pe_cmpR op_eq (pe_d D__law_divisor (hr.mono (by decide)) (by rfl) (pa_cons (pe_ix (show IxR _ (rIxT K) from ix_tup) (pv 0) pe_int (fun _ _ => rfl)) (pa_cons (pe_ix (show IxR _ (rIxT K) from ix_tup) (pv 0) pe_int (fun _ _ => rfl)) pa_nil))) pe_int (nomark _)))))))), ?_⟩
  have d1 := r_den1 q
  refine sq (st_if c (et_or (et_not (et_B (ev_cb (ea_cons (ev_var rfl) (ea_cons ev_c ea_nil)) (rc_isi (.ty _) (by walk_at "ty") (kit_ty (r := true) rfl))))) (fun hb => (et_test (ev_neI (ev_cb (ea_cons (ev_var rfl) ea_nil) rc_lenQ) ev_c)))) (fun hb F H c _ => ?_) (fun hb F H c _ => ?_))
  · simp at hb
  refine nxt ?_
  refine sq (st_if c (et_or (et_not (et_B (ev_call (_) (ea_cons (ev_ixT (K := K) (ev_var rfl) ev_c rfl) ea_nil) (by walk_at "y")))) (fun hb => (et_not (et_B (ev_call (_) (ea_cons (ev_ixT (K := K) (ev_var rfl) ev_c rfl) ea_nil) (by walk_at "y")))))) (fun hb F H c _ => ?_) (fun hb F H c _ => ?_))
  · simp at hb
  refine nxt ?_
  refine st_ret c (ev_andV (ev_I0 (ev_ixT (K := K) (ev_var rfl) ev_c rfl) ev_c) (fun hb => (ev_eqI (ev_call (_, _) (ea_cons (ev_ixT (K := K) (ev_var rfl) ev_c rfl) (ea_cons (ev_ixT (K := K) (ev_var rfl) ev_c rfl) ea_nil)) (by exact Int.le_of_lt d1)) ev_c))) (fun v F' H' c _ r => hq v F' H' c.ext c.sub ?_)
  have e : (decide ((q.den : Int) > 0) && decide ((Int.gcd q.num q.den : Int) = 1)) = true := by rw [r_red]; simp; omega
  show v = V.bl true
  rw [← e]
  exact r
def sp__law_under (K : PySem.W.Frag) (C : Str → Addr) : Sp := CtF (fun a : Rat × Rat => [Fq K a.1, Fq K a.2]) (fun a => Sz a.1 ∧ Sz a.2) (fun a => B (decide (a.1 < a.2)))
theorem ok__law_under (T : G K mg C)  : Dn P w K mg base 1 "_law_under" ["_law_one", "_law_other"] (sp__law_under K C) := by
  refine T.d__law_under.ok sc__law_under (by first | exact CtF.len (fun _ => rfl) | exact CtE.len (fun _ => rfl) | exact CtR.len (fun _ => rfl) | exact CtM.len (fun _ => rfl) | exact CtO.len (fun _ => rfl) | exact CtRO.len (fun _ => rfl) | exact CtX.len (fun _ => rfl) | exact CtMX.len (fun _ => rfl) | exact CtME.len (fun _ => rfl) | exact CtG.len (fun _ => rfl) | exact CtOX.len (fun _ => rfl) | exact CtV.len (fun _ => rfl) | exact spOr_len (by first | exact CtR.len (fun _ => rfl) | exact CtM.len (fun _ => rfl) | exact CtG.len (fun _ => rfl) | exact CtF.len (fun _ => rfl) | exact CtRO.len (fun _ => rfl)) (by first | exact CtRO.len (fun _ => rfl) | exact CtN.len (fun _ => rfl) | exact CtR.len (fun _ => rfl) | exact CtG.len (fun _ => rfl) | exact CtM.len (fun _ => rfl)) | exact sp__law_under_len) (fun f cdv A outer s H vs Q E hr h => ?_)
  obtain ⟨⟨x, y⟩, F, sFH, ha, ⟨b1, b2⟩, hq⟩ := h
  have c := ctx_start (N := ["_law_one", "_law_other"]) sFH ha
  dsimp only at b1 b2 hq
  refine ⟨_, (pss_one (ps_ret (pe_cmpR op_lt (pe_op op_mulW (pe_ix (show IxR _ (rIxT K) from ix_tup) (pv 0) pe_int (fun _ _ => rfl)) (pe_ix (show IxR _ (rIxT K) from ix_tup) (pv 1) pe_int (fun _ _ => rfl))) (pe_op op_mulW (pe_ix (show IxR _ (rIxT K) from ix_tup) (pv 1) pe_int (fun _ _ => rfl)) (pe_ix (show IxR _ (rIxT K) from ix_tup) (pv 0) pe_int (fun _ _ => rfl))) (nomark _)))), ?_⟩
  refine st_ret c (ev_I0 (ev_I (ev_ixT (K := K) (ev_var rfl) ev_c rfl) (ev_ixT (K := K) (ev_var rfl) ev_c rfl) (by exact b1.1.mulW b2.2)) (ev_I (ev_ixT (K := K) (ev_var rfl) ev_c rfl) (ev_ixT (K := K) (ev_var rfl) ev_c rfl) (by exact b2.1.mulW b1.2))) (fun v F' H' c _ r => hq v F' H' c.ext c.sub ?_)
  rw [← r_lt]; exact r
def sp__law_heads (K : PySem.W.Frag) (C : Str → Addr) : Sp := CtF (fun a : List Pie × List Int × Rat => [Ls K (a.1.map (Pc K)), Ls K (a.2.1.map fun n => I n), Fq K a.2.2]) (fun a => a.1.length ≤ 60 ∧ (a.1.Pairwise fun x y => x.1 ≤ y.1) ∧ (∀ p ∈ a.1, 0 ≤ p.1 ∧ p.1 ≤ 2000000000000) ∧ Sz a.2.2) (fun a => Ls K ((headP a.1 a.2.1 a.2.2).map fun n => I n))
theorem ok__law_heads (T : G K mg C)  : Dn P w K mg base 1 "_law_heads" ["_law_row_here", "_law_done", "_law_now"] (sp__law_heads K C) := by
  refine T.d__law_heads.ok sc__law_heads (by first | exact CtF.len (fun _ => rfl) | exact CtE.len (fun _ => rfl) | exact CtR.len (fun _ => rfl) | exact CtM.len (fun _ => rfl) | exact CtO.len (fun _ => rfl) | exact CtRO.len (fun _ => rfl) | exact CtX.len (fun _ => rfl) | exact CtMX.len (fun _ => rfl) | exact CtME.len (fun _ => rfl) | exact CtG.len (fun _ => rfl) | exact CtOX.len (fun _ => rfl) | exact CtV.len (fun _ => rfl) | exact spOr_len (by first | exact CtR.len (fun _ => rfl) | exact CtM.len (fun _ => rfl) | exact CtG.len (fun _ => rfl) | exact CtF.len (fun _ => rfl) | exact CtRO.len (fun _ => rfl)) (by first | exact CtRO.len (fun _ => rfl) | exact CtN.len (fun _ => rfl) | exact CtR.len (fun _ => rfl) | exact CtG.len (fun _ => rfl) | exact CtM.len (fun _ => rfl)) | exact sp__law_heads_len) (fun f cdv A outer s H vs Q E hr h => ?_)
  obtain ⟨⟨row, D, s⟩, F, sFH, ha, ⟨hl, hs, he, hz⟩, hq⟩ := h
  have c := ctx_start (N := ["_law_row_here", "_law_done", "_law_now", "_law_found", "_law_known", "_law_place", "_law_piece"]) sFH ha
  dsimp only at hl hs he hz hq
  refine ⟨_, (pss_cons (ps_set (i := 3) sc__law_heads.nd rfl (by first | exact Or.inl rfl | exact Or.inr rfl) (pe_lst pa_nil))
    (pss_cons (ps_set (i := 4) sc__law_heads.nd rfl (by first | exact Or.inl rfl | exact Or.inr rfl) (pe_lst pa_nil))
    (pss_cons (ps_for PassesOwn.never rfl (pi_enum (by rfl) T.b_enumerate (pa_cons (pv 0) pa_nil)) (show PG _ _ (gTup K 2 _) from pg_tup rfl (pgs_cons (pg_name (i := 5) sc__law_heads.nd rfl (by first | exact Or.inl rfl | exact Or.inr rfl)) (pgs_cons (pg_name (i := 6) sc__law_heads.nd rfl (by first | exact Or.inl rfl | exact Or.inr rfl)) pgs_nil)))
      (pss_one (ps_if (PW.pt (pw_and (pt_cmpR (show OpR _ (compareOp CmpOp.NotIn) (rNotInD K) from op_notInD (hu65 hr)) (pv 5) (pv 1) (by rfl)) (pw_and (pt_cmpR (show OpR _ (compareOp CmpOp.NotIn) (rNotInD K) from op_notInD (hu65 hr)) (pe_ix (show IxR _ (rIxT K) from ix_tup) (pv 6) pe_int (fun _ _ => rfl)) (pv 4) (by rfl)) (pw_and1 (pt_cmpR op_le (pe_op op_mulW (pe_ix (show IxR _ (rIxT K) from ix_tup) (pv 6) pe_int (fun _ _ => rfl)) (pe_ix (show IxR _ (rIxT K) from ix_tup) (pv 2) pe_int (fun _ _ => rfl))) (pe_ix (show IxR _ (rIxT K) from ix_tup) (pv 2) pe_int (fun _ _ => rfl)) (nomark _))))))
        (pss_cons (ps_expr (pe_bm PySem.F.plainAttrs_list PySem.F.slot_list_append PySem.F.type_list_append mt_append (pv 3) (pa_cons (pv 5) pa_nil)))
        (pss_one (ps_expr (pe_bm PySem.F.plainAttrs_list PySem.F.slot_list_append PySem.F.type_list_append mt_append (pv 4) (pa_cons (pe_ix (show IxR _ (rIxT K) from ix_tup) (pv 6) pe_int (fun _ _ => rfl)) pa_nil)))))
        pss_nil)))
    (pss_one (ps_ret (pv 3)))))), ?_⟩
  refine sq (st_nil c (fun p F H σ c _ => ?_))
  refine sq (st_nil c (fun q F H σ c _ => ?_))
  have c : Ctx _ F H σ [some (Ls K (row.map (Pc K))), some (Ls K (D.map fun n => I n)), some (Fq K s), some (Rf p), some (Rf q), none, none] [(q, oL (([] : List Int).map fun n => I n)), (p, oL (([] : List Int).map fun n => I n))] := c
  refine sq (st_forS (xs := row.zipIdx) (f := Et K (Pc K)) (fun i : List Int × List Int × Option As × Option As => [some (Ls K (row.map (Pc K))), some (Ls K (D.map fun n => I n)), some (Fq K s), some (Rf p), some (Rf q), i.2.2.1, i.2.2.2]) (fun y i => [some (Ls K (row.map (Pc K))), some (Ls K (D.map fun n => I n)), some (Fq K s), some (Rf p), some (Rf q), some (I (y.2 : Int)), some (Pc K y.1)]) (fun i => [(q, oL (i.2.1.map fun n => I n)), (p, oL (i.1.map fun n => I n))]) (fun j i => i.1 = ((List.range j).filter (isH row D s)).map (fun i : Nat => (i : Int)) ∧ (∀ w, w ∈ i.2.1 ↔ ∃ k, k < j ∧ isH row D s k = true ∧ whoP row k = w) ∧ i.2.1.length ≤ j) ([], [], none, none) c (src_e (ea_cons (ev_var rfl) ea_nil)) ⟨rfl, fun w => ⟨fun h => absurd h List.not_mem_nil, fun ⟨k, hk, _⟩ => absurd hk (Nat.not_lt_zero k)⟩, Nat.le_refl _⟩ (fun x i => gt_tup (gts_cons gt_name (gts_cons gt_name gts_nil))) ?_ ?_)
  · rintro j ⟨pc, w⟩ ⟨fd, kn, o1, o2⟩ G1 F H σ M hk ⟨h1, h2, h3⟩ c hM
    dsimp only at h1 h2 h3 c
    rw [List.getElem?_zipIdx] at hk
    obtain ⟨pc', hp', es⟩ := Option.map_eq_some_iff.mp hk
    have es1 : pc' = pc := congrArg Prod.fst es
    have ew : 0 + j = w := congrArg Prod.snd es
    have ew : j = w := by omega
    subst es1 ew
    have hjl := (List.getElem?_eq_some_iff.mp hp').1
    have hb0 := he _ (List.mem_of_getElem? hp')
    have wj : whoP row j = pc'.2.1 := by unfold whoP; rw [List.getD_eq_getElem?_getD, hp']; rfl
    have aj : atP row j = pc'.1 := by unfold atP; rw [List.getD_eq_getElem?_getD, hp']; rfl
    have fl : fd.length ≤ 60 := by
      rw [h1, List.length_map]
      have := List.length_filter_le (isH row D s) (List.range j)
      rw [List.length_range] at this
      omega
    have hle : (pc'.1 * (s.den : Int) ≤ s.num) ↔ ((pc'.1 : Int) : Rat) ≤ s := by
      have e := q_den2 s
      have d1 : (0 : Rat) < ((s.den : Int) : Rat) := by have := r_den1 s; exact_mod_cast this
      have hl2 : s.num < pc'.1 * (s.den : Int) ↔ s < ((pc'.1 : Int) : Rat) := by
        rw [← Rat.intCast_lt_intCast, Rat.intCast_mul, ← e]
        exact Rat.mul_lt_mul_right d1
      rw [← Int.not_lt, hl2, Rat.not_lt]
    have hkn : (pc'.2.1 ∈ kn ∨ (j : Int) ∈ D ∨ ¬ (pc'.1 : Rat) ≤ s) ↔ isH row D s j = false := by
      have e : isH row D s j = true ↔ ((j : Int) ∉ D ∧ (atP row j : Rat) ≤ s ∧ ∀ k, k < j → whoP row k = whoP row j → (k : Int) ∈ D) := by
        unfold isH
        simp only [Bool.and_eq_true, Bool.not_eq_true', decide_eq_false_iff_not, decide_eq_true_eq]
      rw [← Bool.not_eq_true, e, aj]
      constructor
      · rintro (z | z | z) ⟨z1, z2, z3⟩
        · obtain ⟨k, k1, k2, k3⟩ := (h2 _).mp z
          have := z3 k k1 (by rw [k3, wj])
          unfold isH at k2
          simp [this] at k2
        · exact z1 z
        · exact z z2
      · intro z
        by_cases c1 : (j : Int) ∈ D
        · exact .inr (.inl c1)
        by_cases c2 : (pc'.1 : Rat) ≤ s
        · refine .inl ((h2 _).mpr ?_)
          have hex : ∃ k, k < j ∧ whoP row k = whoP row j ∧ ¬ (k : Int) ∈ D := Classical.byContradiction fun n => z ⟨c1, c2, fun k hk hw => Classical.byContradiction fun m => n ⟨k, hk, hw, m⟩⟩
          have least : ∀ n, (∃ k, k < n ∧ k < j ∧ whoP row k = whoP row j ∧ ¬ (k : Int) ∈ D) → ∃ k, k < j ∧ whoP row k = whoP row j ∧ ¬ (k : Int) ∈ D ∧ ∀ i, i < k → whoP row i = whoP row k → (i : Int) ∈ D := fun n => by
            induction n with
            | zero => rintro ⟨k, hk, _⟩; exact absurd hk (Nat.not_lt_zero k)
            | succ n ih =>
              rintro ⟨k, k0, k1, k2, k3⟩
              by_cases hm : ∀ i, i < k → whoP row i = whoP row k → (i : Int) ∈ D
              · exact ⟨k, k1, k2, k3, hm⟩
              · obtain ⟨i, hi⟩ := Classical.not_forall.mp hm
                obtain ⟨i1, hi⟩ := Classical.not_imp.mp hi
                obtain ⟨i2, i3⟩ := Classical.not_imp.mp hi
                exact ih ⟨i, by omega, by omega, by rw [i2, k2], i3⟩
          obtain ⟨k, hk0⟩ := hex
          obtain ⟨k, k1, k2, k3, k4⟩ := least (k + 1) ⟨k, Nat.lt_succ_self k, hk0⟩
          refine ⟨k, k1, ?_, by rw [k2, wj]⟩
          unfold isH
          simp only [Bool.and_eq_true, Bool.not_eq_true', decide_eq_false_iff_not, decide_eq_true_eq]
          refine ⟨k3, ?_, k4⟩
          have := at_le hs (Nat.le_of_lt k1) hjl
          rw [aj] at this
          have : ((atP row k : Int) : Rat) ≤ (pc'.1 : Rat) := rle this
          exact Rat.le_trans this c2
        · exact .inr (.inr c2)
    refine st_if (b := isH row D s j) c (et_is (et_and (et_test (ev_notInK (kd_int (K := K)) (ev_var rfl) (lk (ev_var rfl)))) (fun hb => (et_and (et_test (ev_notInK (kd_int (K := K)) (ev_ixT (K := K) (ev_var rfl) ev_c rfl) (lko (j := 0) (ev_var rfl) rfl rdL))) (fun hb => (et_test (ev_I0 (ev_I (ev_ixT (K := K) (ev_var rfl) ev_c rfl) (ev_ixT (K := K) (ev_var rfl) ev_c rfl) (by exact (show Bt 60 pc'.1 by unfold Bt; omega).mulW hz.2)) (ev_ixT (K := K) (ev_var rfl) ev_c rfl))))))) ?e2) (fun hb F H c _ => ?_) (fun hb F H c _ => ?_)
    case e2 =>
      rw [Bool.eq_iff_iff]
      have e : isH row D s j = true ↔ ¬ (pc'.2.1 ∈ kn ∨ (j : Int) ∈ D ∨ ¬ (pc'.1 : Rat) ≤ s) := by rw [hkn]; simp
      rw [e, ← hle]
      simp only [Bool.and_eq_true, Bool.not_eq_true', decide_eq_false_iff_not, decide_eq_true_eq]
      constructor
      · rintro ⟨z1, z2, z3⟩ (w | w | w)
        · exact z2 w
        · exact z1 w
        · exact w z3
      · intro z
        exact ⟨fun w => z (.inr (.inl w)), fun w => z (.inl w), Classical.byContradiction fun w => z (.inr (.inr w))⟩
    · refine sq (st_app (R := I (j : Int)) (j := 1) c (ev_var rfl) rfl (ev_var rfl) (by rw [List.length_map]; omega) (fun F H c _ => ?_))
      refine st_app (R := I pc'.2.1) (j := 0) c (ev_var rfl) rfl (ev_ixT (K := K) (ev_var rfl) ev_c rfl) (by rw [List.length_map]; omega) (fun F H c _ => ?_)
      refine hM (fd ++ [(j : Int)], kn ++ [pc'.2.1], some (I (j : Int)), some (Pc K pc')) F H _ ⟨?_, fun w => ?_, by dsimp only; rw [List.length_append, List.length_singleton]; omega⟩ ?_
      · dsimp only
        rw [List.range_succ, List.filter_append, List.map_append, ← h1, List.filter_cons, if_pos hb]; rfl
      · rw [List.mem_append, h2, List.mem_singleton]
        constructor
        · rintro (⟨k, k1, k2, k3⟩ | z)
          · exact ⟨k, by omega, k2, k3⟩
          · exact ⟨j, Nat.lt_succ_self j, hb, by rw [z, wj]⟩
        · rintro ⟨k, k1, k2, k3⟩
          by_cases e : k = j
          · subst e; exact .inr (by rw [← k3, wj])
          · exact .inl ⟨k, by omega, k2, k3⟩
      · dsimp only
        rw [List.map_append, List.map_append]
        exact c
    · refine nxt (hM (fd, kn, some (I (j : Int)), some (Pc K pc')) F H _ ⟨?_, fun w => ?_, by dsimp only; omega⟩ c)
      · dsimp only
        rw [List.range_succ, List.filter_append, List.filter_cons, if_neg (by rw [hb]; exact Bool.noConfusion), List.filter_nil, List.append_nil, h1]
      · rw [h2]
        constructor
        · rintro ⟨k, k1, k2, k3⟩
          exact ⟨k, by omega, k2, k3⟩
        · rintro ⟨k, k1, k2, k3⟩
          by_cases e : k = j
          · subst e; rw [hb] at k2; exact Bool.noConfusion k2
          · exact ⟨k, by omega, k2, k3⟩
  · rintro ⟨fd, kn, o1, o2⟩ F H σ ⟨h1, _, _⟩ c
    dsimp only at h1
    rw [List.length_zipIdx] at h1
    refine st_retL (K := K) (j := 1) c (ev_var rfl) rfl rdL rfl (fun v F' H' c _ r => hq v F' H' c.ext c.sub ?_)
    unfold headP
    rw [← h1]; exact r
def sp__law_parts (K : PySem.W.Frag) (C : Str → Addr) : Sp := CtF (fun a : List (Int × Rat) × List Pie × Int => [Ls K (a.1.map (PrA K)), Ls K ((a.1.map (·.1)).map fun n => I n), Ls K (a.2.1.map (Pc K)), I a.2.2]) (fun a => a.1 ≠ [] ∧ a.1.length ≤ 1000 ∧ 0 < a.2.2 ∧ Bt 8990 a.2.2 ∧ ∀ p ∈ a.1, ∃ (i : Nat) (q : Pie), p.1 = (i : Int) ∧ a.2.1[i]? = some q ∧ p.2 = Rat.divInt q.2.2.2 a.2.2) (fun _ => B true)
theorem ok__law_parts (T : G K mg C) (D__law_whole : Dn P w K mg base 1 "_law_whole" ["_law_found"] (sp__law_whole K C)) (D__law_fraction : Dn P w K mg base 2 "_law_fraction" ["_law_found"] (sp__law_fraction K C)) (D__law_lowest : Dn P w K mg base 2 "_law_lowest" ["_law_top", "_law_bottom"] (sp__law_lowest K C)) : Dn P w K mg base 3 "_law_parts" ["_law_found", "_law_heads_here", "_law_row_here", "_law_whole_here"] (sp__law_parts K C) := by
  refine T.d__law_parts.ok sc__law_parts (by first | exact CtF.len (fun _ => rfl) | exact CtE.len (fun _ => rfl) | exact CtR.len (fun _ => rfl) | exact CtM.len (fun _ => rfl) | exact CtO.len (fun _ => rfl) | exact CtRO.len (fun _ => rfl) | exact CtX.len (fun _ => rfl) | exact CtMX.len (fun _ => rfl) | exact CtME.len (fun _ => rfl) | exact CtG.len (fun _ => rfl) | exact CtOX.len (fun _ => rfl) | exact CtV.len (fun _ => rfl) | exact spOr_len (by first | exact CtR.len (fun _ => rfl) | exact CtM.len (fun _ => rfl) | exact CtG.len (fun _ => rfl) | exact CtF.len (fun _ => rfl) | exact CtRO.len (fun _ => rfl)) (by first | exact CtRO.len (fun _ => rfl) | exact CtN.len (fun _ => rfl) | exact CtR.len (fun _ => rfl) | exact CtG.len (fun _ => rfl) | exact CtM.len (fun _ => rfl)) | exact sp__law_parts_len) (fun f cdv A outer s H vs Q E hr h => ?_)
  obtain ⟨⟨ps, row, W⟩, F, sFH, ha, ⟨hne, hl, hW, bW, hp⟩, hq⟩ := h
  have c := ctx_start (N := ["_law_found", "_law_heads_here", "_law_row_here", "_law_whole_here", "_law_part", "_law_place"]) sFH ha
  dsimp only at hne hl hW bW hp hq
  refine ⟨_, (pss_cons (ps_if (PW.pt (pw_or (pt_not (pt_val (pe_callB call_isi (by rfl) T.b_isinstance (by decide +kernel) (pa_cons (pv 0) (pa_cons (pe_bltn (by rfl) T.b_list (u := .type "list") (v := .ty "list") (by decide +kernel) rfl) pa_nil))))) (pw_or (pt_cmpR op_ne (pe_callB call_len_seq (by rfl) T.b_len (by decide +kernel) (pa_cons (pv 0) pa_nil)) (pe_callB call_len_seq (by rfl) T.b_len (by decide +kernel) (pa_cons (pv 1) pa_nil)) (nomark _)) (pw_or1 (pt_cmpR (op_eqD hr.units) (pv 1) (pe_lst pa_nil) (nomark _))))))
      (pss_one (ps_ret pe_bl))
      pss_nil)
    (pss_cons (ps_for PassesOwn.never rfl (pi_zip (by rfl) T.b_zip (pa_cons (pv 0) (pa_cons (pv 1) pa_nil))) (show PG _ _ (gTup K 2 _) from pg_tup rfl (pgs_cons (pg_name (i := 4) sc__law_parts.nd rfl (by first | exact Or.inl rfl | exact Or.inr rfl)) (pgs_cons (pg_name (i := 5) sc__law_parts.nd rfl (by first | exact Or.inl rfl | exact Or.inr rfl)) pgs_nil)))
      (pss_cons (ps_if (PW.pt (pw_or (pt_not (pt_val (pe_callB call_isi (by rfl) T.b_isinstance (by decide +kernel) (pa_cons (pv 4) (pa_cons (pe_bltn (by rfl) T.b_tuple (u := .type "tuple") (v := .ty "tuple") (by decide +kernel) rfl) pa_nil))))) (pw_or (pt_cmpR op_ne (pe_callB call_len_seq (by rfl) T.b_len (by decide +kernel) (pa_cons (pv 4) pa_nil)) pe_int (nomark _)) (pw_or1 (pt_not (pt_val (pe_d D__law_whole (hr.mono (by decide)) (by rfl) (pa_cons (pe_ix (show IxR _ (rIxT K) from ix_tup) (pv 4) pe_int (fun _ _ => rfl)) pa_nil))))))))
        (pss_one (ps_ret pe_bl))
        pss_nil)
      (pss_cons (ps_if (PW.pt (pw_or (pt_cmpR op_ne (pe_ix (show IxR _ (rIxT K) from ix_tup) (pv 4) pe_int (fun _ _ => rfl)) (pv 5) (nomark _)) (pw_or1 (pt_not (pt_val (pe_d D__law_fraction (hr.mono (by decide)) (by rfl) (pa_cons (pe_ix (show IxR _ (rIxT K) from ix_tup) (pv 4) pe_int (fun _ _ => rfl)) pa_nil)))))))
        (pss_one (ps_ret pe_bl))
        pss_nil)
      (pss_one (ps_if (pt_cmpR (op_neD hr.units) (pe_ix (show IxR _ (rIxT K) from ix_tup) (pv 4) pe_int (fun _ _ => rfl)) (pe_d D__law_lowest (hr.mono (by decide)) (by rfl) (pa_cons (pe_ix (show IxR _ (rIxT K) from ix_tup) (pe_ix (show IxR _ (rIxL K) from ix_list) (pv 2) (pv 5) (fun _ _ => rfl)) pe_int (fun _ _ => rfl)) (pa_cons (pv 3) pa_nil))) (nomark _))
        (pss_one (ps_ret pe_bl))
        pss_nil)))))
    (pss_one (ps_ret pe_bl)))), ?_⟩
  refine sq (st_if (b := false) c (et_is (et_or (et_not (et_B (ev_cb (ea_cons (ev_var rfl) (ea_cons ev_c ea_nil)) (rc_isi (.ty _) (by walk_at "ty") (kit_ty (r := true) rfl))))) (fun hb => (et_or (et_test (ev_neI (ev_lenLk (lk (ev_var rfl))) (ev_lenLk (lk (ev_var rfl))))) (fun hb => (et_test (ev_cmpNil false (kd_int (K := K)) (lk (ev_var rfl)))))))) (by simp [hne])) (fun hb F H c _ => Bool.noConfusion hb) (fun hb F H c _ => nxt ?_))
  refine sq (st_forS (xs := ps.zip (ps.map (·.1))) (f := fun q => Tp K [PrA K q.1, I q.2]) (fun i : Option As × Option As => [some (Ls K (ps.map (PrA K))), some (Ls K ((ps.map (·.1)).map fun n => I n)), some (Ls K (row.map (Pc K))), some (I W), i.1, i.2]) (fun y i => [some (Ls K (ps.map (PrA K))), some (Ls K ((ps.map (·.1)).map fun n => I n)), some (Ls K (row.map (Pc K))), some (I W), some (PrA K y.1), some (I y.2)]) (fun _ => []) (fun _ _ => True) (none, none) c (src_z (ea_cons (ev_var rfl) (ea_cons (ev_var rfl) ea_nil))) trivial (fun x i => gt_tup (gts_cons gt_name (gts_cons gt_name gts_nil))) ?_ ?_)
  · rintro j ⟨⟨z, r⟩, w⟩ ⟨o1, o2⟩ G1 F H σ M hk _ c hM
    obtain ⟨g1, g2⟩ := List.getElem?_zip_eq_some.mp hk
    have ez : z = w := by
      rw [List.getElem?_map, g1] at g2
      exact Option.some.inj g2
    subst ez
    obtain ⟨i, q, e1, e2, e3⟩ := hp _ (List.mem_of_getElem? g1)
    dsimp only at e1 e3 c
    have hat : atI (row.map (Pc K)) z = some (Pc K q) := by rw [e1]; exact atI_nat (by rw [List.getElem?_map, e2]; rfl)
    refine sq (st_if (b := false) c (et_is (et_or (et_not (et_B (ev_cb (ea_cons (ev_var rfl) (ea_cons ev_c ea_nil)) (rc_isi (.ty _) (by walk_at "ty") (kit_ty (r := true) rfl))))) (fun hb => (et_or (et_test (ev_neI (ev_cb (ea_cons (ev_var rfl) ea_nil) rc_lenT) ev_c)) (fun hb => (et_not (et_B (ev_call (_) (ea_cons (ev_ixT (K := K) (ev_var rfl) ev_c rfl) ea_nil) (by exact trivial)))))))) (by simp)) (fun hb F H c _ => Bool.noConfusion hb) (fun hb F H c _ => nxt ?_))
    refine sq (st_if (b := false) c (et_is (et_or (et_test (ev_neI (ev_ixT (K := K) (ev_var rfl) ev_c rfl) (ev_var rfl))) (fun hb => (et_not (et_B (ev_call (_) (ea_cons (ev_ixT (K := K) (ev_var rfl) ev_c rfl) ea_nil) (by exact trivial)))))) (by simp)) (fun hb F H c _ => Bool.noConfusion hb) (fun hb F H c _ => nxt ?_))
    refine st_if (b := false) c (et_is (et_test (ev_neK (kd_fq (K := K)) (ev_ixT (K := K) (ev_var rfl) ev_c rfl) (ev_call (_, _) (ea_cons (ev_ixT (K := K) (ev_ixLk (lk (ev_var rfl)) (ev_var rfl) (by exact hat)) ev_c rfl) (ea_cons (ev_var rfl) ea_nil)) (by exact ⟨hW, bW⟩)))) (by rw [e3]; simp)) (fun hb F H c _ => Bool.noConfusion hb) (fun hb F H c _ => nxt ?_)
    exact hM (some (PrA K (z, r)), some (I z)) F H _ trivial c
  · rintro ⟨o1, o2⟩ F H σ _ c
    refine st_ret c ev_c (fun v F' H' c _ r => hq v F' H' c.ext c.sub ?_)
    exact r
def sp__law_idle (K : PySem.W.Frag) (C : Str → Addr) : Sp := CtF (fun a : List Pie × List Int × Rat => [Ls K (a.1.map (Pc K)), Ls K (a.2.1.map fun n => I n), Fq K a.2.2]) (fun a => a.1.length ≤ 60 ∧ (∀ p ∈ a.1, 0 ≤ p.1 ∧ p.1 ≤ 2000000000000) ∧ Sz a.2.2 ∧ (∀ (i : Nat) (p : Pie), a.1[i]? = some p → (i : Int) ∈ a.2.1 ∨ a.2.2 ≤ (p.1 : Rat)) ∧ AtR a.1 a.2.2) (fun _ => B true)
theorem ok__law_idle (T : G K mg C)  : Dn P w K mg base 1 "_law_idle" ["_law_row_here", "_law_done", "_law_start"] (sp__law_idle K C) := by
  refine T.d__law_idle.ok sc__law_idle (by first | exact CtF.len (fun _ => rfl) | exact CtE.len (fun _ => rfl) | exact CtR.len (fun _ => rfl) | exact CtM.len (fun _ => rfl) | exact CtO.len (fun _ => rfl) | exact CtRO.len (fun _ => rfl) | exact CtX.len (fun _ => rfl) | exact CtMX.len (fun _ => rfl) | exact CtME.len (fun _ => rfl) | exact CtG.len (fun _ => rfl) | exact CtOX.len (fun _ => rfl) | exact CtV.len (fun _ => rfl) | exact spOr_len (by first | exact CtR.len (fun _ => rfl) | exact CtM.len (fun _ => rfl) | exact CtG.len (fun _ => rfl) | exact CtF.len (fun _ => rfl) | exact CtRO.len (fun _ => rfl)) (by first | exact CtRO.len (fun _ => rfl) | exact CtN.len (fun _ => rfl) | exact CtR.len (fun _ => rfl) | exact CtG.len (fun _ => rfl) | exact CtM.len (fun _ => rfl)) | exact sp__law_idle_len) (fun f cdv A outer s H vs Q E hr h => ?_)
  obtain ⟨⟨row, D, s⟩, F, sFH, ha, ⟨hl, he, hz, hid, hat⟩, hq⟩ := h
  have c := ctx_start (N := ["_law_row_here", "_law_done", "_law_start", "_law_place", "_law_piece"]) sFH ha
  dsimp only at hl he hz hid hat hq
  refine ⟨_, (pss_cons (ps_for PassesOwn.never rfl (pi_enum (by rfl) T.b_enumerate (pa_cons (pv 0) pa_nil)) (show PG _ _ (gTup K 2 _) from pg_tup rfl (pgs_cons (pg_name (i := 3) sc__law_idle.nd rfl (by first | exact Or.inl rfl | exact Or.inr rfl)) (pgs_cons (pg_name (i := 4) sc__law_idle.nd rfl (by first | exact Or.inl rfl | exact Or.inr rfl)) pgs_nil)))
      (pss_one (ps_if (PW.pt (pw_and (pt_cmpR (show OpR _ (compareOp CmpOp.NotIn) (rNotInD K) from op_notInD (hu65 hr)) (pv 3) (pv 1) (by rfl)) (pw_and1 (pt_cmpR op_lt (pe_op op_mulW (pe_ix (show IxR _ (rIxT K) from ix_tup) (pv 4) pe_int (fun _ _ => rfl)) (pe_ix (show IxR _ (rIxT K) from ix_tup) (pv 2) pe_int (fun _ _ => rfl))) (pe_ix (show IxR _ (rIxT K) from ix_tup) (pv 2) pe_int (fun _ _ => rfl)) (nomark _)))))
        (pss_one (ps_ret pe_bl))
        pss_nil)))
    (pss_one (ps_ret (pe_cmpR (show OpR _ (compareOp CmpOp.In) (rInD K) from op_inD (hu65 hr)) (pv 2) (by exact (pe_lc (own := [("_law_piece", 4)]) rfl sc__law_idle.nd (pi_list (pv 0)) (blkOk_by (N := ["_law_row_here", "_law_done", "_law_start", "_law_place", "_law_piece"]) (sc := defScope s__law_idle) (by decide +kernel)) (fun _ _ _ _ _ => (pg_name (i := 4) sc__law_idle.nd rfl (by first | exact Or.inl rfl | exact Or.inr rfl))) (fun _ _ _ _ _ => pts_nil) (fun _ _ _ _ _ => (pe_tup (pa_cons (pe_ix (show IxR _ (rIxT K) from ix_tup) (pv 4) pe_int (fun _ _ => rfl)) (pa_cons pe_int pa_nil)))))) (by rfl))))), ?_⟩
  refine sq (st_forS (xs := row.zipIdx) (f := Et K (Pc K)) (fun i : Option As × Option As => [some (Ls K (row.map (Pc K))), some (Ls K (D.map fun n => I n)), some (Fq K s), i.1, i.2]) (fun y i => [some (Ls K (row.map (Pc K))), some (Ls K (D.map fun n => I n)), some (Fq K s), some (I (y.2 : Int)), some (Pc K y.1)]) (fun _ => []) (fun _ _ => True) (none, none) c (src_e (ea_cons (ev_var rfl) ea_nil)) trivial (fun x i => gt_tup (gts_cons gt_name (gts_cons gt_name gts_nil))) ?_ ?_)
  · rintro j ⟨pc, w⟩ ⟨o1, o2⟩ G1 F H σ M hk _ c hM
    rw [List.getElem?_zipIdx] at hk
    obtain ⟨pc', hp', es⟩ := Option.map_eq_some_iff.mp hk
    have es1 : pc' = pc := congrArg Prod.fst es
    have ew : 0 + j = w := congrArg Prod.snd es
    have ew : j = w := by omega
    subst es1 ew
    have hb0 := he _ (List.mem_of_getElem? hp')
    have hlt : (pc'.1 * (s.den : Int) < s.num) ↔ ((pc'.1 : Int) : Rat) < s := by
      have e := q_den2 s
      have d1 : (0 : Rat) < ((s.den : Int) : Rat) := by have := r_den1 s; exact_mod_cast this
      rw [← Rat.intCast_lt_intCast, Rat.intCast_mul, ← e]
      exact Rat.mul_lt_mul_right d1
    refine st_if (b := false) c (et_is (et_and (et_test (ev_notInK (kd_int (K := K)) (ev_var rfl) (lk (ev_var rfl)))) (fun hb => (et_test (ev_I0 (ev_I (ev_ixT (K := K) (ev_var rfl) ev_c rfl) (ev_ixT (K := K) (ev_var rfl) ev_c rfl) (by exact (show Bt 60 pc'.1 by unfold Bt; omega).mulW hz.2)) (ev_ixT (K := K) (ev_var rfl) ev_c rfl))))) ?e2) (fun hb F H c _ => Bool.noConfusion hb) (fun hb F H c _ => nxt ?_)
    case e2 =>
      rcases hid j pc' hp' with z | z
      · simp [z]
      · have : ¬ pc'.1 * (s.den : Int) < s.num := fun y => by
          have := hlt.mp y
          grind
        simp [this]
    exact hM (_, _) F H _ trivial c
  · rintro ⟨o1, o2⟩ F H σ _ c
    refine st_ret c (ev_is (ev_inK (x := s) (kd_fq (K := K)) (ev_var rfl) (lk (ev_ls2 (Rs' := (row.map fun p => ((p.1 : Int) : Rat)).map (Fq K)) (ev_lcSA (K := K) _ (fun p : Pie => Fq K ((p.1 : Int) : Rat)) (src_l (ev_var rfl)) (fun x => gt_name) (by decide) (fun x hx => (ev_frI (K := K) (ea_cons (ev_ixT (K := K) (ev_var rfl) ev_c rfl) (ea_cons ev_c ea_nil)))) (by omega)) (by rw [List.map_map]; rfl)))) (congrArg B (decide_eq_true (by
      obtain ⟨p, hp, e⟩ := hat
      exact List.mem_map.mpr ⟨p, hp, e.symm⟩)))) (fun v F' H' c _ r => hq v F' H' c.ext c.sub r)
def sp__law_risen (K : PySem.W.Frag) (C : Str → Addr) : Sp := CtF (fun a : Rat × Rat × Rat × Int => [Fq K a.1, Fq K a.2.1, Fq K a.2.2.1, I a.2.2.2]) (fun a => Bz a.1 ∧ Bz a.2.1 ∧ Bz a.2.2.1 ∧ 0 < a.2.2.2 ∧ Bt 30 a.2.2.2) (fun a => Fq K (a.1 + (a.2.2.1 - a.2.1) / (a.2.2.2 : Rat)))
theorem ok__law_risen (T : G K mg C) (D__law_lowest : Dn P w K mg base 2 "_law_lowest" ["_law_top", "_law_bottom"] (sp__law_lowest K C)) : Dn P w K mg base 3 "_law_risen" ["_law_height", "_law_start", "_law_end", "_law_whole_here"] (sp__law_risen K C) := by
  refine T.d__law_risen.ok sc__law_risen (by first | exact CtF.len (fun _ => rfl) | exact CtE.len (fun _ => rfl) | exact CtR.len (fun _ => rfl) | exact CtM.len (fun _ => rfl) | exact CtO.len (fun _ => rfl) | exact CtRO.len (fun _ => rfl) | exact CtX.len (fun _ => rfl) | exact CtMX.len (fun _ => rfl) | exact CtME.len (fun _ => rfl) | exact CtG.len (fun _ => rfl) | exact CtOX.len (fun _ => rfl) | exact CtV.len (fun _ => rfl) | exact spOr_len (by first | exact CtR.len (fun _ => rfl) | exact CtM.len (fun _ => rfl) | exact CtG.len (fun _ => rfl) | exact CtF.len (fun _ => rfl) | exact CtRO.len (fun _ => rfl)) (by first | exact CtRO.len (fun _ => rfl) | exact CtN.len (fun _ => rfl) | exact CtR.len (fun _ => rfl) | exact CtG.len (fun _ => rfl) | exact CtM.len (fun _ => rfl)) | exact sp__law_risen_len) (fun f cdv A outer s H vs Q E hr h => ?_)
  obtain ⟨⟨h, s, e, W⟩, F, sFH, ha, ⟨b1, b2, b3, hW, bW⟩, hq⟩ := h
  have c := ctx_start (N := ["_law_height", "_law_start", "_law_end", "_law_whole_here", "_law_top", "_law_bottom"]) sFH ha
  dsimp only at b1 b2 b3 hW bW hq
  refine ⟨_, (pss_cons (ps_set (i := 4) sc__law_risen.nd rfl (by first | exact Or.inl rfl | exact Or.inr rfl) (pe_op op_sub (pe_op op_mulW (pe_ix (show IxR _ (rIxT K) from ix_tup) (pv 2) pe_int (fun _ _ => rfl)) (pe_ix (show IxR _ (rIxT K) from ix_tup) (pv 1) pe_int (fun _ _ => rfl))) (pe_op op_mulW (pe_ix (show IxR _ (rIxT K) from ix_tup) (pv 1) pe_int (fun _ _ => rfl)) (pe_ix (show IxR _ (rIxT K) from ix_tup) (pv 2) pe_int (fun _ _ => rfl)))))
    (pss_cons (ps_set (i := 5) sc__law_risen.nd rfl (by first | exact Or.inl rfl | exact Or.inr rfl) (pe_op op_mulW (pe_op op_mulW (pe_ix (show IxR _ (rIxT K) from ix_tup) (pv 1) pe_int (fun _ _ => rfl)) (pe_ix (show IxR _ (rIxT K) from ix_tup) (pv 2) pe_int (fun _ _ => rfl))) (pv 3)))
    (pss_one (ps_ret (pe_d D__law_lowest (hr.mono (by decide)) (by rfl) (pa_cons (pe_op op_add (pe_op op_mulW (pe_ix (show IxR _ (rIxT K) from ix_tup) (pv 0) pe_int (fun _ _ => rfl)) (pv 5)) (pe_op op_mulW (pv 4) (pe_ix (show IxR _ (rIxT K) from ix_tup) (pv 0) pe_int (fun _ _ => rfl)))) (pa_cons (pe_op op_mulW (pe_ix (show IxR _ (rIxT K) from ix_tup) (pv 0) pe_int (fun _ _ => rfl)) (pv 5)) pa_nil))))))), ?_⟩
  rw [← risen_is hW] at hq
  have d1 := r_den1 h
  have d2 := r_den1 s
  have d3 := r_den1 e
  have t1 := (b3.1.mul b2.2).sub (b2.1.mul b3.2)
  have t2 := (b2.2.mul b3.2).mul bW
  refine sq (st_set c (ev_I0 (ev_I (ev_ixT (K := K) (ev_var rfl) ev_c rfl) (ev_ixT (K := K) (ev_var rfl) ev_c rfl) (by exact b3.1.mulW b2.2)) (ev_I (ev_ixT (K := K) (ev_var rfl) ev_c rfl) (ev_ixT (K := K) (ev_var rfl) ev_c rfl) (by exact b2.1.mulW b3.2))) (fun F H σ c _ => ?_))
  refine sq (st_set c (ev_I (ev_I (ev_ixT (K := K) (ev_var rfl) ev_c rfl) (ev_ixT (K := K) (ev_var rfl) ev_c rfl) (by exact b2.2.mulW b3.2)) (ev_var rfl) (by exact (b2.2.mul b3.2).mulW bW)) (fun F H σ c _ => ?_))
  refine st_ret c (ev_call (_, _) (ea_cons (ev_I0 (ev_I (ev_ixT (K := K) (ev_var rfl) ev_c rfl) (ev_var rfl) (by exact b1.1.mulW t2)) (ev_I (ev_var rfl) (ev_ixT (K := K) (ev_var rfl) ev_c rfl) (by exact t1.mulW b1.2))) (ea_cons (ev_I (ev_ixT (K := K) (ev_var rfl) ev_c rfl) (ev_var rfl) (by exact b1.2.mulW t2)) ea_nil)) (by exact ⟨Int.mul_pos d1 (Int.mul_pos (Int.mul_pos d2 d3) hW), (b1.2.mul t2).up (by decide)⟩)) (fun v F' H' c _ r => hq v F' H' c.ext c.sub r)
def sp__law_out (K : PySem.W.Frag) (C : Str → Addr) : Sp := CtF (fun a : Rat × Rat × Pie => [Fq K a.1, Fq K a.2.1, Pc K a.2.2]) (fun a => Bz a.1 ∧ Bz a.2.1 ∧ (1 ≤ a.2.2.2.2.1 ∧ a.2.2.2.2.1 ≤ 1000000) ∧ 1 ≤ a.2.2.2.2.2 ∧ a.2.2.2.2.2 ≤ 1000000) (fun a => I (outS a.1 a.2.1 a.2.2))
theorem ok__law_out (T : G K mg C)  : Dn P w K mg base 1 "_law_out" ["_law_begin", "_law_height", "_law_piece"] (sp__law_out K C) := by
  refine T.d__law_out.ok sc__law_out (by first | exact CtF.len (fun _ => rfl) | exact CtE.len (fun _ => rfl) | exact CtR.len (fun _ => rfl) | exact CtM.len (fun _ => rfl) | exact CtO.len (fun _ => rfl) | exact CtRO.len (fun _ => rfl) | exact CtX.len (fun _ => rfl) | exact CtMX.len (fun _ => rfl) | exact CtME.len (fun _ => rfl) | exact CtG.len (fun _ => rfl) | exact CtOX.len (fun _ => rfl) | exact CtV.len (fun _ => rfl) | exact spOr_len (by first | exact CtR.len (fun _ => rfl) | exact CtM.len (fun _ => rfl) | exact CtG.len (fun _ => rfl) | exact CtF.len (fun _ => rfl) | exact CtRO.len (fun _ => rfl)) (by first | exact CtRO.len (fun _ => rfl) | exact CtN.len (fun _ => rfl) | exact CtR.len (fun _ => rfl) | exact CtG.len (fun _ => rfl) | exact CtM.len (fun _ => rfl)) | exact sp__law_out_len) (fun f cdv A outer s H vs Q E hr h => ?_)
  obtain ⟨⟨b, h, p⟩, F, sFH, ha, ⟨b1, b2, hl, hs⟩, hq⟩ := h
  have c := ctx_start (N := ["_law_begin", "_law_height", "_law_piece", "_law_flowed_by", "_law_due"]) sFH ha
  dsimp only at b1 b2 hl hs hq
  refine ⟨_, (pss_cons (ps_set (i := 3) sc__law_out.nd rfl (by first | exact Or.inl rfl | exact Or.inr rfl) (pe_op op_mulW (pe_op op_sub (pe_op op_mulW (pe_ix (show IxR _ (rIxT K) from ix_tup) (pv 1) pe_int (fun _ _ => rfl)) (pe_ix (show IxR _ (rIxT K) from ix_tup) (pv 0) pe_int (fun _ _ => rfl))) (pe_op op_mulW (pe_ix (show IxR _ (rIxT K) from ix_tup) (pv 0) pe_int (fun _ _ => rfl)) (pe_ix (show IxR _ (rIxT K) from ix_tup) (pv 1) pe_int (fun _ _ => rfl)))) (pe_ix (show IxR _ (rIxT K) from ix_tup) (pv 2) pe_int (fun _ _ => rfl))))
    (pss_cons (ps_set (i := 4) sc__law_out.nd rfl (by first | exact Or.inl rfl | exact Or.inr rfl) (pe_op op_mulW (pe_op op_mulW (pe_ix (show IxR _ (rIxT K) from ix_tup) (pv 2) pe_int (fun _ _ => rfl)) (pe_ix (show IxR _ (rIxT K) from ix_tup) (pv 0) pe_int (fun _ _ => rfl))) (pe_ix (show IxR _ (rIxT K) from ix_tup) (pv 1) pe_int (fun _ _ => rfl))))
    (pss_one (ps_ret (pe_op op_subB (pe_cmpR op_gt (pv 3) (pv 4) (nomark _)) (pe_cmpR op_lt (pv 3) (pv 4) (nomark _))))))), ?_⟩
  have bl : Bt 20 p.2.2.1 := by unfold Bt; omega
  have bs : Bt 20 p.2.2.2 := by unfold Bt; omega
  refine sq (st_set c (ev_I (ev_I0 (ev_I (ev_ixT (K := K) (ev_var rfl) ev_c rfl) (ev_ixT (K := K) (ev_var rfl) ev_c rfl) (by exact b2.1.mulW b1.2)) (ev_I (ev_ixT (K := K) (ev_var rfl) ev_c rfl) (ev_ixT (K := K) (ev_var rfl) ev_c rfl) (by exact b1.1.mulW b2.2))) (ev_ixT (K := K) (ev_var rfl) ev_c rfl) (by exact ((b2.1.mul b1.2).sub (b1.1.mul b2.2)).mulW bs)) (fun F H σ c _ => ?_))
  refine sq (st_set c (ev_I (ev_I (ev_ixT (K := K) (ev_var rfl) ev_c rfl) (ev_ixT (K := K) (ev_var rfl) ev_c rfl) (by exact bl.mulW b1.2)) (ev_ixT (K := K) (ev_var rfl) ev_c rfl) (by exact (bl.mul b1.2).mulW b2.2)) (fun F H σ c _ => ?_))
  refine st_ret c (ev_is (ev_subB (ev_I0 (ev_var rfl) (ev_var rfl)) (ev_I0 (ev_var rfl) (ev_var rfl))) (congrArg (fun z => I z) out_is)) (fun v F' H' c _ r => hq v F' H' c.ext c.sub r)
def sp__law_shape (K : PySem.W.Frag) (C : Str → Addr) : Sp := CtF (fun a : Addr × Str3 => [SrR K a]) (fun a => Sz a.2.1 ∧ Sz a.2.2.1 ∧ a.2.1 < a.2.2.1) (fun _ => B true)
theorem ok__law_shape (T : G K mg C) (D__law_fraction : Dn P w K mg base 2 "_law_fraction" ["_law_found"] (sp__law_fraction K C)) (D__law_under : Dn P w K mg base 1 "_law_under" ["_law_one", "_law_other"] (sp__law_under K C)) : Dn P w K mg base 3 "_law_shape" ["_law_found"] (sp__law_shape K C) := by
  refine T.d__law_shape.ok sc__law_shape (by first | exact CtF.len (fun _ => rfl) | exact CtE.len (fun _ => rfl) | exact CtR.len (fun _ => rfl) | exact CtM.len (fun _ => rfl) | exact CtO.len (fun _ => rfl) | exact CtRO.len (fun _ => rfl) | exact CtX.len (fun _ => rfl) | exact CtMX.len (fun _ => rfl) | exact CtME.len (fun _ => rfl) | exact CtG.len (fun _ => rfl) | exact CtOX.len (fun _ => rfl) | exact CtV.len (fun _ => rfl) | exact spOr_len (by first | exact CtR.len (fun _ => rfl) | exact CtM.len (fun _ => rfl) | exact CtG.len (fun _ => rfl) | exact CtF.len (fun _ => rfl) | exact CtRO.len (fun _ => rfl)) (by first | exact CtRO.len (fun _ => rfl) | exact CtN.len (fun _ => rfl) | exact CtR.len (fun _ => rfl) | exact CtG.len (fun _ => rfl) | exact CtM.len (fun _ => rfl)) | exact sp__law_shape_len) (fun f cdv A outer s H vs Q E hr h => ?_)
  obtain ⟨⟨ad, x⟩, F, sFH, ha, ⟨b1, b2, hlt⟩, hq⟩ := h
  have c := ctx_start (N := ["_law_found"]) sFH ha
  dsimp only at b1 b2 hlt hq
  refine ⟨_, (pss_cons (ps_if (PW.pt (pw_or (pt_not (pt_val (pe_callB call_isi (by rfl) T.b_isinstance (by decide +kernel) (pa_cons (pv 0) (pa_cons (pe_bltn (by rfl) T.b_tuple (u := .type "tuple") (v := .ty "tuple") (by decide +kernel) rfl) pa_nil))))) (pw_or1 (pt_cmpR op_ne (pe_callB call_len_seq (by rfl) T.b_len (by decide +kernel) (pa_cons (pv 0) pa_nil)) pe_int (nomark _)))))
      (pss_one (ps_ret pe_bl))
      pss_nil)
    (pss_one (ps_ret (pe_and (pe_d D__law_fraction (hr.mono (by decide)) (by rfl) (pa_cons (pe_ix (show IxR _ (rIxT K) from ix_tup) (pv 0) pe_int (fun _ _ => rfl)) pa_nil)) (pe_and (pe_d D__law_fraction (hr.mono (by decide)) (by rfl) (pa_cons (pe_ix (show IxR _ (rIxT K) from ix_tup) (pv 0) pe_int (fun _ _ => rfl)) pa_nil)) (pe_one (pe_d D__law_under (hr.mono (by decide)) (by rfl) (pa_cons (pe_ix (show IxR _ (rIxT K) from ix_tup) (pv 0) pe_int (fun _ _ => rfl)) (pa_cons (pe_ix (show IxR _ (rIxT K) from ix_tup) (pv 0) pe_int (fun _ _ => rfl)) pa_nil))))))))), ?_⟩
  refine sq (st_if (b := false) c (et_is (et_or (et_not (et_B (ev_cb (ea_cons (ev_var rfl) (ea_cons ev_c ea_nil)) (rc_isi (.ty _) (by walk_at "ty") (kit_ty (r := true) rfl))))) (fun hb => (et_test (ev_neI (ev_cb (ea_cons (ev_var rfl) ea_nil) rc_lenT) ev_c)))) (by simp)) (fun hb F H c _ => Bool.noConfusion hb) (fun hb F H c _ => nxt ?_))
  refine st_ret c (ev_is (ev_andV (ev_call (_) (ea_cons (ev_ixT (K := K) (ev_var rfl) ev_c rfl) ea_nil) (by exact trivial)) (fun hb => (ev_andV (ev_call (_) (ea_cons (ev_ixT (K := K) (ev_var rfl) ev_c rfl) ea_nil) (by exact trivial)) (fun hb => (ev_call (_, _) (ea_cons (ev_ixT (K := K) (ev_var rfl) ev_c rfl) (ea_cons (ev_ixT (K := K) (ev_var rfl) ev_c rfl) ea_nil)) (by exact ⟨b1, b2⟩)))))) (congrArg B (by simp [hlt]))) (fun v F' H' c _ r => hq v F' H' c.ext c.sub r)
def sp_law (K : PySem.W.Frag) (C : Str → Addr) : Sp := LawSp K
theorem ok_law (T : G K mg C) (D__law_row : Dn P w K mg base 2 "_law_row" ["_law_script"] (sp__law_row K C)) (D_flow : Dn P w K mg base 7 "flow" ["row"] (sp_flow K C)) (D__law_shape : Dn P w K mg base 3 "_law_shape" ["_law_found"] (sp__law_shape K C)) (D__law_under : Dn P w K mg base 1 "_law_under" ["_law_one", "_law_other"] (sp__law_under K C)) (D__law_idle : Dn P w K mg base 1 "_law_idle" ["_law_row_here", "_law_done", "_law_start"] (sp__law_idle K C)) (D__law_heads : Dn P w K mg base 1 "_law_heads" ["_law_row_here", "_law_done", "_law_now"] (sp__law_heads K C)) (D__law_parts : Dn P w K mg base 3 "_law_parts" ["_law_found", "_law_heads_here", "_law_row_here", "_law_whole_here"] (sp__law_parts K C)) (D__law_risen : Dn P w K mg base 3 "_law_risen" ["_law_height", "_law_start", "_law_end", "_law_whole_here"] (sp__law_risen K C)) (D__law_out : Dn P w K mg base 1 "_law_out" ["_law_begin", "_law_height", "_law_piece"] (sp__law_out K C)) : Dn P w K mg base 8 "law" ["_law_script"] (sp_law K C) := by
  refine T.d_law.ok sc_law (by first | exact CtF.len (fun _ => rfl) | exact CtE.len (fun _ => rfl) | exact CtR.len (fun _ => rfl) | exact CtM.len (fun _ => rfl) | exact CtO.len (fun _ => rfl) | exact CtRO.len (fun _ => rfl) | exact CtX.len (fun _ => rfl) | exact CtMX.len (fun _ => rfl) | exact CtME.len (fun _ => rfl) | exact CtG.len (fun _ => rfl) | exact CtOX.len (fun _ => rfl) | exact CtV.len (fun _ => rfl) | exact spOr_len (by first | exact CtR.len (fun _ => rfl) | exact CtM.len (fun _ => rfl) | exact CtG.len (fun _ => rfl) | exact CtF.len (fun _ => rfl) | exact CtRO.len (fun _ => rfl)) (by first | exact CtRO.len (fun _ => rfl) | exact CtN.len (fun _ => rfl) | exact CtR.len (fun _ => rfl) | exact CtG.len (fun _ => rfl) | exact CtM.len (fun _ => rfl)) | exact sp_law_len) (fun f cdv A outer s H vs Q E hr h => ?_)
  obtain ⟨ns, F, sFH, ha, hp, hq⟩ := h
  have c := ctx_start (N := ["_law_script", "_law_row_here", "_law_handed", "_law_stretches", "_law_done", "_law_begins", "_law_height", "_law_now", "_law_stretch", "_law_heads_here", "_law_whole_here", "_law_place", "_law_over_length", "_law_piece", "_law_start", "_law_end", "_law_parts_here"]) sFH ha
  refine ⟨_, (pss_cons (ps_set (i := 1) sc_law.nd rfl (by first | exact Or.inl rfl | exact Or.inr rfl) (pe_d D__law_row (hr.mono (by decide)) (by rfl) (pa_cons (pv 0) pa_nil)))
    (pss_cons (ps_set (i := 2) sc_law.nd rfl (by first | exact Or.inl rfl | exact Or.inr rfl) (pe_callTy call_list_of (by rfl) T.b_list (by decide +kernel) (pa_cons (pv 1) pa_nil)))
    (pss_cons (ps_set (i := 3) sc_law.nd rfl (by first | exact Or.inl rfl | exact Or.inr rfl) (pe_d D_flow (hr.mono (by decide)) (by rfl) (pa_cons (pv 2) pa_nil)))
    (pss_cons (ps_if (PW.pt (pw_or (pt_not (pt_val (pe_callB call_isi (by rfl) T.b_isinstance (by decide +kernel) (pa_cons (pv 3) (pa_cons (pe_bltn (by rfl) T.b_list (u := .type "list") (v := .ty "list") (by decide +kernel) rfl) pa_nil))))) (pw_or1 (pt_cmpR (op_neD hr.units) (pv 2) (pv 1) (nomark _)))))
      (pss_one (ps_ret pe_bl))
      pss_nil)
    (pss_cons (ps_set (i := 4) sc_law.nd rfl (by first | exact Or.inl rfl | exact Or.inr rfl) (pe_lst pa_nil))
    (pss_cons (ps_set (i := 5) sc_law.nd rfl (by first | exact Or.inl rfl | exact Or.inr rfl) pe_dnewK)
    (pss_cons (ps_set (i := 6) sc_law.nd rfl (by first | exact Or.inl rfl | exact Or.inr rfl) (pe_tup (pa_cons pe_int (pa_cons pe_int pa_nil))))
    (pss_cons (ps_set (i := 7) sc_law.nd rfl (by first | exact Or.inl rfl | exact Or.inr rfl) (pe_tup (pa_cons pe_int (pa_cons pe_int pa_nil))))
    (pss_cons (ps_for PassesOwn.never rfl (pi_list (pv 3)) (pg_name (i := 8) sc_law.nd rfl (by first | exact Or.inl rfl | exact Or.inr rfl))
      (pss_cons (ps_if (pt_not (pt_val (pe_d D__law_shape (hr.mono (by decide)) (by rfl) (pa_cons (pv 8) pa_nil))))
        (pss_one (ps_ret pe_bl))
        pss_nil)
      (pss_cons (ps_asg (pv 8) (show PG _ _ (gTup K 3 _) from pg_tup rfl (pgs_cons (pg_name (i := 14) sc_law.nd rfl (by first | exact Or.inl rfl | exact Or.inr rfl)) (pgs_cons (pg_name (i := 15) sc_law.nd rfl (by first | exact Or.inl rfl | exact Or.inr rfl)) (pgs_cons (pg_name (i := 16) sc_law.nd rfl (by first | exact Or.inl rfl | exact Or.inr rfl)) pgs_nil)))))
      (pss_cons (ps_if (PW.pt (pw_and (pt_cmpR (op_neD hr.units) (pv 14) (pv 7) (nomark _)) (pw_and1 (PW.pt (pw_or (pt_val (pe_d D__law_under (hr.mono (by decide)) (by rfl) (pa_cons (pv 14) (pa_cons (pv 7) pa_nil)))) (pw_or1 (pt_not (pt_val (pe_d D__law_idle (hr.mono (by decide)) (by rfl) (pa_cons (pv 1) (pa_cons (pv 4) (pa_cons (pv 14) pa_nil))))))))))))
        (pss_one (ps_ret pe_bl))
        pss_nil)
      (pss_cons (ps_set (i := 9) sc_law.nd rfl (by first | exact Or.inl rfl | exact Or.inr rfl) (pe_d D__law_heads (hr.mono (by decide)) (by rfl) (pa_cons (pv 1) (pa_cons (pv 4) (pa_cons (pv 14) pa_nil)))))
      (pss_cons (ps_set (i := 10) sc_law.nd rfl (by first | exact Or.inl rfl | exact Or.inr rfl) (pe_callB (cr_sum rfl) (by rfl) T.b_sum (by decide +kernel) (pa_cons (by exact (pe_lc (own := [("_law_place", 11)]) rfl sc_law.nd (pi_list (pv 9)) (blkOk_by (N := ["_law_script", "_law_row_here", "_law_handed", "_law_stretches", "_law_done", "_law_begins", "_law_height", "_law_now", "_law_stretch", "_law_heads_here", "_law_whole_here", "_law_place", "_law_over_length", "_law_piece", "_law_start", "_law_end", "_law_parts_here"]) (sc := defScope s_law) (by decide +kernel)) (fun _ _ _ _ _ => (pg_name (i := 11) sc_law.nd rfl (by first | exact Or.inl rfl | exact Or.inr rfl))) (fun _ _ _ _ _ => pts_nil) (fun _ _ _ _ _ => (pe_ix (show IxR _ (rIxT K) from ix_tup) (pe_ix (show IxR _ (rIxL K) from ix_list) (pv 1) (pv 11) (fun _ _ => rfl)) pe_int (fun _ _ => rfl))))) pa_nil)))
      (pss_cons (ps_if (pt_not (pt_val (pe_d D__law_parts (hr.mono (by decide)) (by rfl) (pa_cons (pv 16) (pa_cons (pv 9) (pa_cons (pv 1) (pa_cons (pv 10) pa_nil)))))))
        (pss_one (ps_ret pe_bl))
        pss_nil)
      (pss_cons (ps_for PassesOwn.never rfl (pi_list (pv 9)) (pg_name (i := 11) sc_law.nd rfl (by first | exact Or.inl rfl | exact Or.inr rfl))
        (pss_one (ps_expr (pe_bm PySem.F.plainAttrs_dict PySem.F.slot_dict_setdefault PySem.F.type_dict_setdefault mt_setd (pv 5) (pa_cons (pv 11) (pa_cons (pv 6) pa_nil))))))
      (pss_cons (ps_set (i := 6) sc_law.nd rfl (by first | exact Or.inl rfl | exact Or.inr rfl) (pe_d D__law_risen (hr.mono (by decide)) (by rfl) (pa_cons (pv 6) (pa_cons (pv 14) (pa_cons (pv 15) (pa_cons (pv 10) pa_nil))))))
      (pss_cons (by exact (ps_setLc (i := 12) (own := [("_law_place", 11)]) rfl sc_law.nd rfl rfl (sw_true rfl rfl rfl (by decide +kernel)) (pi_list (pv 9)) (blkOk_by (N := ["_law_script", "_law_row_here", "_law_handed", "_law_stretches", "_law_done", "_law_begins", "_law_height", "_law_now", "_law_stretch", "_law_heads_here", "_law_whole_here", "_law_place", "_law_over_length", "_law_piece", "_law_start", "_law_end", "_law_parts_here"]) (sc := defScope s_law) (by decide +kernel)) (fun _ _ _ _ _ => (pg_name (i := 11) sc_law.nd rfl (by first | exact Or.inl rfl | exact Or.inr rfl))) (fun _ _ _ _ _ => pts_nil) (fun _ _ _ _ _ => (pe_d D__law_out (hr.mono (by decide)) (by rfl) (pa_cons (pe_dget (hu_of hr) (pv 5) (pv 11) (fun _ _ => rfl)) (pa_cons (pv 6) (pa_cons (pe_ix (show IxR _ (rIxL K) from ix_list) (pv 1) (pv 11) (fun _ _ => rfl)) pa_nil)))))))
      (pss_cons (ps_if (PW.pt (pw_or (pt_cmpR (show OpR _ (compareOp CmpOp.In) (rInD K) from op_inD (hu65 hr)) pe_int (pv 12) (by rfl)) (pw_or1 (PW.pt (pw_and (pt_cmpR (show OpR _ (compareOp CmpOp.NotIn) (rNotInD K) from op_notInD (hu65 hr)) pe_int (pv 12) (by rfl)) (pw_and1 (pt_cmpR (show OpR _ (compareOp CmpOp.NotIn) (rNotInD K) from op_notInD (hu65 hr)) (pv 15) (by exact (pe_lc (own := [("_law_piece", 13)]) rfl sc_law.nd (pi_list (pv 1)) (blkOk_by (N := ["_law_script", "_law_row_here", "_law_handed", "_law_stretches", "_law_done", "_law_begins", "_law_height", "_law_now", "_law_stretch", "_law_heads_here", "_law_whole_here", "_law_place", "_law_over_length", "_law_piece", "_law_start", "_law_end", "_law_parts_here"]) (sc := defScope s_law) (by decide +kernel)) (fun _ _ _ _ _ => (pg_name (i := 13) sc_law.nd rfl (by first | exact Or.inl rfl | exact Or.inr rfl))) (fun _ _ _ _ _ => pts_nil) (fun _ _ _ _ _ => (pe_tup (pa_cons (pe_ix (show IxR _ (rIxT K) from ix_tup) (pv 13) pe_int (fun _ _ => rfl)) (pa_cons pe_int pa_nil)))))) (by rfl))))))))
        (pss_one (ps_ret pe_bl))
        pss_nil)
      (pss_cons (ps_for PassesOwn.never rfl (pi_list (pv 1)) (pg_name (i := 13) sc_law.nd rfl (by first | exact Or.inl rfl | exact Or.inr rfl))
        (pss_one (ps_if (PW.pt (pw_and (pt_cmpR op_lt (pe_ix (show IxR _ (rIxT K) from ix_tup) (pv 14) pe_int (fun _ _ => rfl)) (pe_op op_mulW (pe_ix (show IxR _ (rIxT K) from ix_tup) (pv 13) pe_int (fun _ _ => rfl)) (pe_ix (show IxR _ (rIxT K) from ix_tup) (pv 14) pe_int (fun _ _ => rfl))) (nomark _)) (pw_and1 (pt_cmpR op_lt (pe_op op_mulW (pe_ix (show IxR _ (rIxT K) from ix_tup) (pv 13) pe_int (fun _ _ => rfl)) (pe_ix (show IxR _ (rIxT K) from ix_tup) (pv 15) pe_int (fun _ _ => rfl))) (pe_ix (show IxR _ (rIxT K) from ix_tup) (pv 15) pe_int (fun _ _ => rfl)) (nomark _)))))
          (pss_one (ps_ret pe_bl))
          pss_nil)))
      (pss_cons (ps_set (i := 4) sc_law.nd rfl (by first | exact Or.inl rfl | exact Or.inr rfl) (pe_op op_cat (pv 4) (by exact (pe_lc (own := [("_law_place", 11)]) rfl sc_law.nd (pi_list (pv 9)) (blkOk_by (N := ["_law_script", "_law_row_here", "_law_handed", "_law_stretches", "_law_done", "_law_begins", "_law_height", "_law_now", "_law_stretch", "_law_heads_here", "_law_whole_here", "_law_place", "_law_over_length", "_law_piece", "_law_start", "_law_end", "_law_parts_here"]) (sc := defScope s_law) (by decide +kernel)) (fun _ _ _ _ _ => (pg_name (i := 11) sc_law.nd rfl (by first | exact Or.inl rfl | exact Or.inr rfl))) (fun _ _ _ _ _ => (pts_one (pt_cmpR op_eq (pe_d D__law_out (hr.mono (by decide)) (by rfl) (pa_cons (pe_dget (hu_of hr) (pv 5) (pv 11) (fun _ _ => rfl)) (pa_cons (pv 6) (pa_cons (pe_ix (show IxR _ (rIxL K) from ix_list) (pv 1) (pv 11) (fun _ _ => rfl)) pa_nil)))) pe_int (nomark _)))) (fun _ _ _ _ _ => (pv 11))))))
      (pss_cons (ps_set (i := 7) sc_law.nd rfl (by first | exact Or.inl rfl | exact Or.inr rfl) (pv 15))
      (pss_one (ps_expr (pe_bm PySem.F.plainAttrs_list PySem.F.slot_list_append PySem.F.type_list_append mt_append (pv 16) (pa_cons (pe_tup (pa_cons pe_int (pa_cons (pe_tup (pa_cons pe_int (pa_cons pe_int pa_nil))) pa_nil))) pa_nil))))))))))))))))))
    (pss_one (ps_ret (pe_cmpR op_eq (pe_callB call_len_seq (by rfl) T.b_len (by decide +kernel) (pa_cons (pv 4) pa_nil)) (pe_callB call_len_seq (by rfl) T.b_len (by decide +kernel) (pa_cons (pv 1) pa_nil)) (nomark _))))))))))))), ?_⟩
  refine sq (st_set c (ev_call (_) (ea_cons (ev_var rfl) ea_nil) (by exact trivial)) (fun F H σ c _ => ?_))
  obtain ⟨row, good, c⟩ := c.opn 1 rfl
  have h60 := good.len
  have hr0 : RowF row := ⟨by omega, fun p hp => by have := good.each p hp; omega⟩
  have hs := good.up
  have shl := flowS_shl hr0
  have lfl := len_flow hr0
  obtain ⟨hE, mE, sim, dead⟩ := flow_sim hr0 hs
  refine sq (st_set c (ev_listLk (lk (ev_var rfl))) (fun F H σ c _ => ?_))
  refine sq (eg_set c (eg_call row (ea_cons (ev_var rfl) ea_nil) hr0) (fun es F H σ hes c _ => ?_))
  have hes : es.map Prod.snd = flowS row := hes
  have les := len_snd hes
  rw [← hes] at sim
  have c : Ctx _ F H σ _ (es.map (prO K) ++ []) := c
  rw [List.append_nil] at c
  refine sq (st_if (b := false) c (et_is (et_or (et_not (et_B (ev_cb (ea_cons (ev_var rfl) (ea_cons ev_c ea_nil)) (rc_isi (.ty _) (by walk_at "ty") (kit_ty (r := true) rfl))))) (fun hb => (et_test (ev_neK (kd_list (kd_pc (K := K))) (ev_var rfl) (ev_var rfl))))) (by simp)) (fun hb F H c _ => Bool.noConfusion hb) (fun hb F H c _ => nxt ?_))
  refine sq (st_set (R := Lh (([] : List Int).map fun n => I n)) c (ev_lsthZ ea_nil) (fun F H σ c _ => ?_))
  refine sq (st_setO c eo_dnew (fun dp F H σ c _ => ?_))
  refine sq (st_set (R := Fq K 0) c (ev_is (ev_frI (K := K) (ea_cons ev_c (ea_cons ev_c ea_nil))) rfl) (fun F H σ c _ => ?_))
  refine sq (st_set (R := Fq K 0) c (ev_is (ev_frI (K := K) (ea_cons ev_c (ea_cons ev_c ea_nil))) rfl) (fun F H σ c _ => ?_))
  have c : Ctx _ F H σ [some (Ls K (ns.map fun n => I n)), some (Ls K (row.map (Pc K))), some (Ls K (row.map (Pc K))), some (Ls K (es.map (SrR K))), some (Lh (([] : List Int).map fun n => I n)), some (Rf dp), some (Fq K 0), some (Fq K 0), none, none, none, none, none, none, none, none, none] ((dp, oD (enA K [])) :: es.map (prO K)) := c
  rw [← owE_0] at c
  refine sq (st_forS (xs := es) (f := SrR K) (fun i : (Nat × List Int × Dd × Rat × Rat) × (Option As × Option As × Option As) × (Option As × Option As × Option As) × (Option As × Option As × Option As) => [some (Ls K (ns.map fun n => I n)), some (Ls K (row.map (Pc K))), some (Ls K (row.map (Pc K))), some (Ls K (es.map (SrR K))), some (Lh (i.1.2.1.map fun n => I n)), some (Rf dp), some (Fq K i.1.2.2.2.1), some (Fq K i.1.2.2.2.2), i.2.1.1, i.2.1.2.1, i.2.1.2.2, i.2.2.1.1, i.2.2.1.2.1, i.2.2.1.2.2, i.2.2.2.1, i.2.2.2.2.1, i.2.2.2.2.2]) (fun y i => [some (Ls K (ns.map fun n => I n)), some (Ls K (row.map (Pc K))), some (Ls K (row.map (Pc K))), some (Ls K (es.map (SrR K))), some (Lh (i.1.2.1.map fun n => I n)), some (Rf dp), some (Fq K i.1.2.2.2.1), some (Fq K i.1.2.2.2.2), some (SrR K y), i.2.1.2.1, i.2.1.2.2, i.2.2.1.1, i.2.2.1.2.1, i.2.2.1.2.2, i.2.2.2.1, i.2.2.2.2.1, i.2.2.2.2.2]) (fun i => (dp, oD (enA K i.1.2.2.1)) :: owE K es i.1.1) (fun j i => i.1.1 = j ∧ Sim (AtR row) row (tgS row row.length) i.1.2.2.2.1 i.1.2.2.2.2 ((es.map Prod.snd).drop j) hE mE ∧ Don row i.1.2.1 i.1.2.2.2.1 ∧ BgOk row i.1.2.2.1 i.1.2.2.2.1 ∧ i.1.2.2.1.length ≤ 63 * j ∧ Bz i.1.2.2.2.2 ∧ ∀ z b, getD z i.1.2.2.1 = some b → Bz b) ((0, [], [], 0, 0), (none, none, none), (none, none, none), (none, none, none)) c (src_l (ev_var rfl)) ⟨rfl, by rw [List.drop_zero]; exact sim, ⟨fun i hi => ⟨fun z => absurd z List.not_mem_nil, fun z => ?w1⟩, fun z hz => absurd hz List.not_mem_nil, List.nodup_nil⟩, ⟨fun i hi b hb => (by cases hb), fun i hi z => ?w2⟩, Nat.zero_le _, bz0, fun z b hb => (by cases hb)⟩ (fun x i => gt_name) ?_ ?_)
  case w1 =>
    exfalso
    have hp := hr0.each _ (List.getElem_mem hi)
    have dp := div_pos hp.2.1.1 (show 0 < (row[i]).2.2.2 by omega)
    have h0 : (0 : Rat) ≤ (stA row i).he := (sta_all hr0 hs hi).rn.tr.h0
    have hg : (stA row i).he ≤ (tagAt row i).1 := by
      have := tag_succ hi
      rw [tgS_succ] at this
      have := List.append_cancel_left this
      rw [List.cons.injEq] at this
      rw [this.1]
      exact begT_ge
    rw [tagAt_is (List.getElem?_eq_getElem hi)] at z hg
    dsimp only at z hg
    grind
  case w2 =>
    exfalso
    have h0 : (0 : Rat) ≤ (stA row i).he := (sta_all hr0 hs hi).rn.tr.h0
    have hg : (stA row i).he ≤ (tagAt row i).1 := by
      have := tag_succ hi
      rw [tgS_succ] at this
      have := List.append_cancel_left this
      rw [List.cons.injEq] at this
      rw [this.1]
      exact begT_ge
    dsimp only at z
    grind
  · rintro j ⟨ad, x⟩ ⟨⟨k, D, bg, h, m⟩, ⟨o1, o2, o3⟩, ⟨o4, o5, o6⟩, o7, o8, o9⟩ G1 F H σ M hk ⟨ek, sm, don, bok, bl, bm, bgz⟩ c hM
    dsimp only at ek sm don bok bl bm bgz c
    subst ek
    have hkl := (List.getElem?_eq_some_iff.mp hk).1
    have hdr : (es.map Prod.snd).drop k = x :: (es.map Prod.snd).drop (k + 1) := by
      rw [List.drop_eq_getElem_cons (show k < (es.map Prod.snd).length by rw [List.length_map]; exact hkl), List.getElem_map, (List.getElem?_eq_some_iff.mp hk).2]
    rw [hdr] at sm
    obtain ⟨h', s, rest⟩ := sm
    have s : StepR row h m x h' := s
    obtain ⟨l, r, hll, eo, eo2⟩ := owE_split (K := K) hk
    rw [eo] at c
    have hxm : x ∈ flowS row := by rw [← hes]; exact List.mem_map.mpr ⟨_, List.mem_of_getElem? hk, rfl⟩
    have hpl := shl.p x hxm
    have bs := s.s0.1
    have be := s.s1.1
    have bh := s.s0.2
    have bh' := s.s1.2
    have gt := s.gt
    have w0 := s.w0
    have w1 := wG_le hr0 s hpl
    obtain ⟨W, eW⟩ : ∃ W, wG (tgS row row.length) x = W := ⟨_, rfl⟩
    rw [eW] at w0 w1
    have bW : Bt 30 W := by unfold Bt; omega
    have hats : ∀ p ∈ row, 0 ≤ p.1 ∧ p.1 ≤ 2000000000000 := fun p hp => (hr0.each p hp).1
    obtain ⟨zs, ezs⟩ : ∃ zs, x.2.2.map (·.1) = zs := ⟨_, rfl⟩
    have lzs : zs.length ≤ 63 := by rw [← ezs, List.length_map]; exact hpl
    have hz : ∀ z ∈ zs, ∃ i : Nat, z = (i : Int) ∧ i < row.length ∧ (tagAt row i).1 ≤ h ∧ h < (tagAt row i).2.1 := fun z hz => s.at hr0 (by rw [ezs]; exact hz)
    have hrow : ∀ z ∈ zs, atI (row.map (Pc K)) z = some (Pc K (row.getD z.toNat (0, 0, 0, 0))) := fun z hz0 => by
      obtain ⟨i, e, hi, _⟩ := hz z hz0
      rw [e, Int.toNat_natCast]
      exact atI_nat (by rw [List.getElem?_map, List.getElem?_eq_getElem hi, List.getD_eq_getElem?_getD, List.getElem?_eq_getElem hi]; rfl)
    have hpie : ∀ z ∈ zs, (1 ≤ (row.getD z.toNat (0, 0, 0, 0)).2.2.1 ∧ (row.getD z.toNat (0, 0, 0, 0)).2.2.1 ≤ 1000000) ∧ 1 ≤ (row.getD z.toNat (0, 0, 0, 0)).2.2.2 ∧ (row.getD z.toNat (0, 0, 0, 0)).2.2.2 ≤ 1000000 := fun z hz0 => by
      obtain ⟨i, e, hi, _⟩ := hz z hz0
      rw [e, Int.toNat_natCast, List.getD_eq_getElem?_getD, List.getElem?_eq_getElem hi]
      exact (hr0.each _ (List.getElem_mem hi)).2
    have hshz : ∀ z ∈ zs, (row.getD z.toNat (0, 0, 0, 0)).2.2.2 = shG (tgS row row.length) z := fun z hz0 => by
      obtain ⟨i, e, hi, _⟩ := hz z hz0
      rw [e, shG_row hi, Int.toNat_natCast, List.getD_eq_getElem?_getD, List.getElem?_eq_getElem hi]; rfl
    refine sq (st_if (b := false) c (et_is (et_not (et_B (ev_call ((ad, x) : Addr × Str3) (ea_cons (ev_var rfl) ea_nil) ⟨bs.sz, be.sz, gt⟩))) rfl) (fun hb F H c _ => Bool.noConfusion hb) (fun hb F H c _ => nxt ?_))
    refine sq (st_asg (R := SrR K (ad, x)) c (ev_var rfl) (gt_tup (Rs := [Fq K x.1, Fq K x.2.1, Rf ad]) (gts_cons gt_name (gts_cons gt_name (gts_cons gt_name gts_nil)))) (fun F H σ c _ => ?_))
    refine sq (st_if (b := false) c ?tt (fun hb F H c _ => Bool.noConfusion hb) (fun _ F H c _ => nxt ?_))
    case tt =>
      rcases s.idl with e | ⟨e1, e2⟩
      · exact et_and (a := false) (b := false) (et_is (et_test (ev_neK (x := x.1) (y := m) (kd_fq (K := K)) (ev_var rfl) (ev_var rfl))) (by rw [e]; simp)) (fun hb => Bool.noConfusion hb)
      · refine et_is (et_and (et_test (ev_neK (x := x.1) (y := m) (kd_fq (K := K)) (ev_var rfl) (ev_var rfl))) (fun hb => et_or (et_B (ev_call (x.1, m) (ea_cons (ev_var rfl) (ea_cons (ev_var rfl) ea_nil)) ⟨bs.sz, bm.sz⟩)) (fun hb => et_not (et_B (ev_call (row, D, x.1) (ea_cons (ev_var rfl) (ea_cons (ev_lh (ev_var rfl)) (ea_cons (ev_var rfl) ea_nil))) ⟨by omega, hats, bs.sz, fun i p hp => ?_, e1⟩))))) ?_
        · have hi := (List.getElem?_eq_some_iff.mp hp).1
          have ai : atP row i = p.1 := by unfold atP; rw [List.getD_eq_getElem?_getD, hp]; rfl
          by_cases q : (p.1 : Rat) < x.1
          · exact .inl ((don.ok i hi).mpr (e2 i _ (tgS_get hi) (by rw [ai]; exact q)))
          · exact .inr (Rat.not_lt.mp q)
        · have : ¬ x.1 < m := Rat.not_lt.mpr s.le
          simp [this]
    have ehd := heads_eq hr0 hs s don
    rw [ezs] at ehd
    refine sq (st_set (R := Ls K (zs.map fun n => I n)) c (ev_is (ev_call (row, D, x.1) (ea_cons (ev_var rfl) (ea_cons (ev_lh (ev_var rfl)) (ea_cons (ev_var rfl) ea_nil))) ⟨by omega, hs, hats, bs.sz⟩) (by rw [ehd])) (fun F H σ c _ => ?_))
    have hsum : (zs.map fun z => shG (tgS row row.length) z).sum = W := by rw [← eW, ← ezs, List.map_map]; rfl
    refine sq (st_set (R := I W) c (ev_is (ev_cb (ea_cons (ev_lcSA (K := K) _ (fun z : Int => I (shG (tgS row row.length) z)) (src_l (ev_var rfl)) (fun x => gt_name) (by decide) (fun z hz0 => ev_is (ev_ixT (K := K) (Rs := [I (row.getD z.toNat (0, 0, 0, 0)).1, I (row.getD z.toNat (0, 0, 0, 0)).2.1, I (row.getD z.toNat (0, 0, 0, 0)).2.2.1, I (row.getD z.toNat (0, 0, 0, 0)).2.2.2]) (ev_ixLk (K := K) (lk (ev_var rfl)) (ev_var rfl) (by exact hrow z hz0)) ev_c rfl) (congrArg (fun z => I z) (hshz z hz0))) (by omega)) ea_nil) rc_sum) (congrArg (fun z => I z) hsum)) (fun F H σ c _ => ?_))
    have hat : ((dp, oD (enA K bg)) :: (l ++ prO K (ad, x) :: r))[k + 1]? = some (ad, oL (x.2.2.map (PrA K))) := by rw [← hll]; exact mid_at
    refine sq (st_if (b := false) c (et_peek (K := K) (i := 16) (j := k + 1) hat rfl (et_is (et_not (et_B (ev_call (x.2.2, row, W) (by dsimp only; rw [ezs]; exact (ea_cons (ev_var rfl) (ea_cons (ev_var rfl) (ea_cons (ev_var rfl) (ea_cons (ev_var rfl) ea_nil))))) ⟨?p1, by dsimp only; omega, w0, bW.up (by decide), ?p2⟩))) rfl)) (fun hb F H c _ => Bool.noConfusion hb) (fun hb F H c _ => nxt ?_))
    case p1 =>
      intro z
      dsimp only at z
      rw [← eW] at w0
      unfold wG at w0
      rw [z] at w0
      exact absurd w0 (Int.lt_irrefl 0)
    case p2 =>
      intro p hp
      have hz0 : p.1 ∈ zs := by rw [← ezs]; exact List.mem_map.mpr ⟨p, hp, rfl⟩
      obtain ⟨i, e, hi, _⟩ := hz p.1 hz0
      refine ⟨i, row[i], e, List.getElem?_eq_getElem hi, ?_⟩
      rw [s.rt p hp, eW, e, shG_row hi]
    obtain ⟨bok', hgb⟩ := bg_set hr0 s bok
    rw [ezs] at bok' hgb
    have c : Ctx _ F H σ [some (Ls K (ns.map fun n => I n)), some (Ls K (row.map (Pc K))), some (Ls K (row.map (Pc K))), some (Ls K (es.map (SrR K))), some (Lh (D.map fun n => I n)), some (Rf dp), some (Fq K h), some (Fq K m), some (SrR K (ad, x)), some (Ls K (zs.map fun n => I n)), some (I W), o4, o5, o6, some (Fq K x.1), some (Fq K x.2.1), some (Rf ad)] ((dp, oD (enA K bg)) :: (l ++ prO K (ad, x) :: r)) := c
    refine sq (st_forS (xs := zs) (f := fun n => I n) (fun i : Dd × Option As => [some (Ls K (ns.map fun n => I n)), some (Ls K (row.map (Pc K))), some (Ls K (row.map (Pc K))), some (Ls K (es.map (SrR K))), some (Lh (D.map fun n => I n)), some (Rf dp), some (Fq K h), some (Fq K m), some (SrR K (ad, x)), some (Ls K (zs.map fun n => I n)), some (I W), i.2, o5, o6, some (Fq K x.1), some (Fq K x.2.1), some (Rf ad)]) (fun y i => [some (Ls K (ns.map fun n => I n)), some (Ls K (row.map (Pc K))), some (Ls K (row.map (Pc K))), some (Ls K (es.map (SrR K))), some (Lh (D.map fun n => I n)), some (Rf dp), some (Fq K h), some (Fq K m), some (SrR K (ad, x)), some (Ls K (zs.map fun n => I n)), some (I W), some (I y), o5, o6, some (Fq K x.1), some (Fq K x.2.1), some (Rf ad)]) (fun i => (dp, oD (enA K i.1)) :: (l ++ prO K (ad, x) :: r)) (fun j2 i => i.1 = setAll h (zs.take j2) bg) (bg, o4) c (src_l (ev_var rfl)) rfl (fun x i => gt_name) ?_ ?_)
    · rintro j2 z ⟨b1, o10⟩ G2 F H σ M2 hk2 e2 c hM2
      dsimp only at e2 c
      have hj2 := (List.getElem?_eq_some_iff.mp hk2).1
      have lb := setAll_len (h := h) (zs.take j2) bg
      rw [← e2, List.length_take] at lb
      refine st_setd (j := 0) (R := Fq K h) c (ev_var rfl) rfl (ev_var rfl) (ev_var rfl) (by rw [List.length_map]; omega) (fun F H c _ => ?_) (c.wr (j := 0) rfl rfl)
      have c : Ctx _ F H σ _ ((dp, oD (setD (enA K b1) z (Fq K h))) :: (l ++ prO K (ad, x) :: r)) := c
      rw [show setD (enA K b1) z (Fq K h) = enA K (setD b1 z h) from setD_map] at c
      refine hM2 (setD b1 z h, some (I z)) F H _ ?_ c
      dsimp only
      rw [List.take_succ, hk2, e2]
      unfold setAll
      rw [List.foldl_append]; rfl
    rintro ⟨bg2, o10⟩ F H σ e2 c
    dsimp only at e2 c
    rw [List.take_length] at e2
    rw [← e2] at bok' hgb
    have lb := setAll_len (h := h) zs bg
    rw [← e2] at lb
    have hge : ∀ z ∈ zs, getD z (enA K bg2) = some (Fq K (tagAt row z.toNat).1) := fun z hz0 => by
      have := getD_map (g := Fq K) z bg2
      rw [hgb z hz0] at this
      exact this
    have bgz2 : ∀ z b, getD z bg2 = some b → Bz b := fun z b hb => by
      rw [e2, setAll_get] at hb
      split at hb
      · cases eg : getD z bg with
        | none =>
          rw [eg] at hb
          rw [← Option.some.inj hb]; exact bh
        | some y =>
          rw [eg] at hb
          rw [← Option.some.inj hb]; exact bgz z y eg
      · exact bgz z b hb
    have hbt : ∀ z ∈ zs, Bz (tagAt row z.toNat).1 := fun z hz0 => bgz2 z _ (hgb z hz0)
    have hW0 : (W : Rat) ≠ 0 := by
      have : W ≠ 0 := by omega
      exact_mod_cast this
    have eh : h + (x.2.1 - x.1) / (W : Rat) = h' := by
      rw [s.wd, eW, Rat.div_def, Rat.mul_assoc, Rat.mul_inv_cancel _ hW0, Rat.mul_one]; grind
    refine sq (st_set (R := Fq K h') c (ev_is (ev_call (h, x.1, x.2.1, W) (ea_cons (ev_var rfl) (ea_cons (ev_var rfl) (ea_cons (ev_var rfl) (ea_cons (ev_var rfl) ea_nil)))) ⟨bh, bs, be, w0, bW⟩) (congrArg (Fq K) eh)) (fun F H σ c _ => ?_))
    refine sq (st_set (R := Ls K ((zs.map (ovP row h')).map fun n => I n)) c (ev_ls2 (Rs' := (zs.map (ovP row h')).map fun n => I n) (ev_lcSA (K := K) _ (fun z : Int => I (ovP row h' z)) (src_l (ev_var rfl)) (fun x => gt_name) (by decide) (fun z hz0 => (ev_call ((tagAt row z.toNat).1, h', row.getD z.toNat (0, 0, 0, 0)) (ea_cons (ev_dget (dko (j := 0) (ev_var rfl) rfl) (ev_var rfl) (by exact hge z hz0)) (ea_cons (ev_var rfl) (ea_cons (ev_ixLk (K := K) (lk (ev_var rfl)) (ev_var rfl) (by exact hrow z hz0)) ea_nil))) (by exact ⟨hbt z hz0, bh', hpie z hz0⟩))) (by omega)) (by rw [List.map_map]; rfl)) (fun F H σ c _ => ?_))
    have ov := ov_ok hr0 s
    rw [ezs] at ov
    refine sq (st_if (b := false) c (et_is (et_or (et_test (ev_inK (x := (1 : Int)) (xs := zs.map (ovP row h')) (kd_int (K := K)) ev_c (lk (ev_var rfl)))) (fun hb => et_and (et_test (ev_notInK (x := (0 : Int)) (xs := zs.map (ovP row h')) (kd_int (K := K)) ev_c (lk (ev_var rfl)))) (fun hb => et_test (ev_notInK (x := x.2.1) (kd_fq (K := K)) (ev_var rfl) (lk (ev_ls2 (Rs' := (row.map fun p => ((p.1 : Int) : Rat)).map (Fq K)) (ev_lcSA (K := K) _ (fun p : Pie => Fq K ((p.1 : Int) : Rat)) (src_l (ev_var rfl)) (fun x => gt_name) (by decide) (fun x hx => (ev_frI (K := K) (ea_cons (ev_ixT (K := K) (ev_var rfl) ev_c rfl) (ea_cons ev_c ea_nil)))) (by omega)) (by rw [List.map_map]; rfl))))))) ?e23) (fun hb F H c _ => Bool.noConfusion hb) (fun hb F H c _ => nxt ?_))
    case e23 =>
      have n1 := decide_eq_false ov.1
      rw [n1]
      rcases ov.2 with z | ⟨p, hp, e⟩
      · rw [decide_eq_true z]; rfl
      · have : x.2.1 ∈ row.map fun p => ((p.1 : Int) : Rat) := List.mem_map.mpr ⟨p, hp, e.symm⟩
        rw [decide_eq_true this]
        simp
    have c : Ctx _ F H _ [some (Ls K (ns.map fun n => I n)), some (Ls K (row.map (Pc K))), some (Ls K (row.map (Pc K))), some (Ls K (es.map (SrR K))), some (Lh (D.map fun n => I n)), some (Rf dp), some (Fq K h'), some (Fq K m), some (SrR K (ad, x)), some (Ls K (zs.map fun n => I n)), some (I W), o10, some (Ls K ((zs.map (ovP row h')).map fun n => I n)), o6, some (Fq K x.1), some (Fq K x.2.1), some (Rf ad)] ((dp, oD (enA K bg2)) :: (l ++ prO K (ad, x) :: r)) := c
    refine sq (st_forS (xs := row) (f := Pc K) (fun i : Option As => [some (Ls K (ns.map fun n => I n)), some (Ls K (row.map (Pc K))), some (Ls K (row.map (Pc K))), some (Ls K (es.map (SrR K))), some (Lh (D.map fun n => I n)), some (Rf dp), some (Fq K h'), some (Fq K m), some (SrR K (ad, x)), some (Ls K (zs.map fun n => I n)), some (I W), o10, some (Ls K ((zs.map (ovP row h')).map fun n => I n)), i, some (Fq K x.1), some (Fq K x.2.1), some (Rf ad)]) (fun y i => [some (Ls K (ns.map fun n => I n)), some (Ls K (row.map (Pc K))), some (Ls K (row.map (Pc K))), some (Ls K (es.map (SrR K))), some (Lh (D.map fun n => I n)), some (Rf dp), some (Fq K h'), some (Fq K m), some (SrR K (ad, x)), some (Ls K (zs.map fun n => I n)), some (I W), o10, some (Ls K ((zs.map (ovP row h')).map fun n => I n)), some (Pc K y), some (Fq K x.1), some (Fq K x.2.1), some (Rf ad)]) (fun _ => (dp, oD (enA K bg2)) :: (l ++ prO K (ad, x) :: r)) (fun _ _ => True) o6 c (src_l (ev_var rfl)) trivial (fun x i => gt_name) ?_ ?_)
    · rintro j2 p o11 G2 F H σ M2 hk2 _ c hM2
      have hi := (List.getElem?_eq_some_iff.mp hk2).1
      have ai : atP row j2 = p.1 := by unfold atP; rw [List.getD_eq_getElem?_getD, hk2]; rfl
      have hp0 := hats p (List.mem_of_getElem? hk2)
      have bp : Bt 60 p.1 := by unfold Bt; omega
      have q1 := q_den2 x.1
      have q2 := q_den2 x.2.1
      have d1 : (0 : Rat) < ((x.1.den : Int) : Rat) := by have := r_den1 x.1; exact_mod_cast this
      have d2 : (0 : Rat) < ((x.2.1.den : Int) : Rat) := by have := r_den1 x.2.1; exact_mod_cast this
      have l1 : x.1.num < p.1 * (x.1.den : Int) ↔ x.1 < ((p.1 : Int) : Rat) := by
        rw [← Rat.intCast_lt_intCast, Rat.intCast_mul, ← q1]
        exact Rat.mul_lt_mul_right d1
      have l2 : p.1 * (x.2.1.den : Int) < x.2.1.num ↔ ((p.1 : Int) : Rat) < x.2.1 := by
        rw [← Rat.intCast_lt_intCast, Rat.intCast_mul, ← q2]
        exact Rat.mul_lt_mul_right d2
      refine st_if (b := false) c (et_is (et_and (et_test (ev_I0 (ev_ixT (K := K) (ev_var rfl) ev_c rfl) (ev_I (ev_ixT (K := K) (ev_var rfl) ev_c rfl) (ev_ixT (K := K) (ev_var rfl) ev_c rfl) (by exact bp.mulW bs.2)))) (fun hb => (et_test (ev_I0 (ev_I (ev_ixT (K := K) (ev_var rfl) ev_c rfl) (ev_ixT (K := K) (ev_var rfl) ev_c rfl) (by exact bp.mulW be.2)) (ev_ixT (K := K) (ev_var rfl) ev_c rfl))))) ?e26) (fun hb F H c _ => Bool.noConfusion hb) (fun hb F H c _ => nxt ?_)
      case e26 =>
        rcases s.cm j2 hi with z | z
        · rw [ai] at z
          have : ¬ x.1.num < p.1 * (x.1.den : Int) := fun w => by
            have := l1.mp w
            grind
          simp [this]
        · rw [ai] at z
          have : ¬ p.1 * (x.2.1.den : Int) < x.2.1.num := fun w => by
            have := l2.mp w
            grind
          simp [this]
      exact hM2 _ F H _ trivial c
    rintro o11 F H σ _ c
    obtain ⟨D2, eD2⟩ : ∃ D2, D ++ (zs.filter fun z => decide (ovP row h' z = 0)) = D2 := ⟨_, rfl⟩
    have don2 := don_step hr0 s don
    rw [ezs, eD2] at don2
    have lD := don_len don
    have lf := List.length_filter_le (fun z => decide (ovP row h' z = 0)) zs
    refine sq (st_set (R := Lh (D2.map fun n => I n)) c (ev_is (lh_lw (lw_cat (Rs := D.map fun n => I n) (Ss := (zs.filter fun z => decide (ovP row h' z = 0)).map fun n => I n) (lw_lh (ev_var rfl)) (lw_nw (eo_lc _ (fun z => decide (ovP row h' z = 0)) (fun z : Int => I z) (src_l (ev_var rfl)) (fun x => gt_name) (by decide) (fun z hz0 => (et_test (ev_eqI (ev_call ((tagAt row z.toNat).1, h', row.getD z.toNat (0, 0, 0, 0)) (ea_cons (ev_dget (dko (j := 0) (ev_var rfl) rfl) (ev_var rfl) (by exact hge z hz0)) (ea_cons (ev_var rfl) (ea_cons (ev_ixLk (K := K) (lk (ev_var rfl)) (ev_var rfl) (by exact hrow z hz0)) ea_nil))) (by exact ⟨hbt z hz0, bh', hpie z hz0⟩)) ev_c))) (fun x hx hc => (ev_var rfl)) (by omega))) (by rw [List.length_map, List.length_map]; omega))) (by rw [← eD2, List.map_append])) (fun F H σ c _ => ?_))
    refine sq (st_set (R := Fq K x.2.1) c (ev_var rfl) (fun F H σ c _ => ?_))
    have hat2 : ((dp, oD (enA K bg2)) :: (l ++ prO K (ad, x) :: r))[k + 1]? = some (ad, oL (x.2.2.map (PrA K))) := by rw [← hll]; exact mid_at
    refine st_app (R := PrA K (0, ((1 : Int) : Rat))) (j := k + 1) c (ev_var rfl) hat2 (ev_tup (K := K) (ea_cons ev_c (ea_cons (ev_frI (K := K) (ea_cons ev_c (ea_cons ev_c ea_nil))) ea_nil)) (show 2 ≤ 1000 by decide)) (by rw [List.length_map]; omega) (fun F H c _ => ?_)
    have c : Ctx _ F H _ _ (((dp, oD (enA K bg2)) :: (l ++ prO K (ad, x) :: r)).set (k + 1) (ad, oL (x.2.2.map (PrA K) ++ [PrA K (0, ((1 : Int) : Rat))]))) := c
    rw [show k + 1 = l.length + 1 by rw [hll], mid_set] at c
    refine hM ((k + 1, D2, bg2, h', x.2.1), (some (SrR K (ad, x)), some (Ls K (zs.map fun n => I n)), some (I W)), (o10, some (Ls K ((zs.map (ovP row h')).map fun n => I n)), o11), (some (Fq K x.1), some (Fq K x.2.1), some (Rf ad))) F H _ ⟨rfl, rest, don2, bok', by dsimp only; omega, be, bgz2⟩ ?_
    dsimp only
    rw [eo2]
    exact c
  · rintro ⟨⟨k, D, bg, h, m⟩, ⟨o1, o2, o3⟩, ⟨o4, o5, o6⟩, o7, o8, o9⟩ F H σ ⟨ek, sm, don, _⟩ c
    dsimp only at ek sm don c
    rw [List.drop_of_length_le (by rw [List.length_map]; exact Nat.le_refl _)] at sm
    obtain ⟨s1, s2⟩ := sm
    have ln := don_all don (fun i hi => by rw [← s1]; exact dead i hi)
    refine st_ret c (ev_is (ev_eqI (ev_lenLk (K := K) (lk (ev_lh (ev_var rfl)))) (ev_lenLk (lk (ev_var rfl)))) (congrArg B (by simp [ln]))) (fun v F' H' c _ r => hq v F' H' c.ext c.sub r)
end
/-! the end -/
theorem all_mk {l : PySem.W.OpenLaw} {w : World} {K : PySem.W.Frag} {h : Heap} {mg : Str → Option Value} {fa : Addr} (X : K.In h) (G0 : h.Ns mainGlobals mg) (hfa : mg "law" = some (.ref fa)) {C_NoRatio : Addr} {C_Tide : Addr} {f_divisor : Addr} {od0 an0 : Option Addr} {sl0 : Array (Option Value)} {oc0 kV0 dc0 pm0 cd0 ct0 : Value} {f_ratio : Addr} {od1 an1 : Option Addr} {sl1 : Array (Option Value)} {oc1 kV1 dc1 pm1 cd1 ct1 : Value} {f_plus : Addr} {od2 an2 : Option Addr} {sl2 : Array (Option Value)} {oc2 kV2 dc2 pm2 cd2 ct2 : Value} {f_minus : Addr} {od3 an3 : Option Addr} {sl3 : Array (Option Value)} {oc3 kV3 dc3 pm3 cd3 ct3 : Value} {f_times : Addr} {od4 an4 : Option Addr} {sl4 : Array (Option Value)} {oc4 kV4 dc4 pm4 cd4 ct4 : Value} {f_over : Addr} {od5 an5 : Option Addr} {sl5 : Array (Option Value)} {oc5 kV5 dc5 pm5 cd5 ct5 : Value} {f_under : Addr} {od6 an6 : Option Addr} {sl6 : Array (Option Value)} {oc6 kV6 dc6 pm6 cd6 ct6 : Value} {f_greater : Addr} {od7 an7 : Option Addr} {sl7 : Array (Option Value)} {oc7 kV7 dc7 pm7 cd7 ct7 : Value} {f_Tide___init__ : Addr} {od8 an8 : Option Addr} {sl8 : Array (Option Value)} {oc8 kV8 dc8 pm8 cd8 ct8 : Value} {f_Tide_heads : Addr} {od9 an9 : Option Addr} {sl9 : Array (Option Value)} {oc9 kV9 dc9 pm9 cd9 ct9 : Value} {f_Tide_goes : Addr} {od10 an10 : Option Addr} {sl10 : Array (Option Value)} {oc10 kV10 dc10 pm10 cd10 ct10 : Value} {f_Tide_rises : Addr} {od11 an11 : Option Addr} {sl11 : Array (Option Value)} {oc11 kV11 dc11 pm11 cd11 ct11 : Value} {f_Tide_drains : Addr} {od12 an12 : Option Addr} {sl12 : Array (Option Value)} {oc12 kV12 dc12 pm12 cd12 ct12 : Value} {f_Tide_come : Addr} {od13 an13 : Option Addr} {sl13 : Array (Option Value)} {oc13 kV13 dc13 pm13 cd13 ct13 : Value} {f_flow : Addr} {od14 an14 : Option Addr} {sl14 : Array (Option Value)} {oc14 kV14 dc14 pm14 cd14 ct14 : Value} {f__law_cell_at : Addr} {od15 an15 : Option Addr} {sl15 : Array (Option Value)} {oc15 kV15 dc15 pm15 cd15 ct15 : Value} {f__law_mix : Addr} {od16 an16 : Option Addr} {sl16 : Array (Option Value)} {oc16 kV16 dc16 pm16 cd16 ct16 : Value} {f__law_row : Addr} {od17 an17 : Option Addr} {sl17 : Array (Option Value)} {oc17 kV17 dc17 pm17 cd17 ct17 : Value} {f__law_divisor : Addr} {od18 an18 : Option Addr} {sl18 : Array (Option Value)} {oc18 kV18 dc18 pm18 cd18 ct18 : Value} {f__law_lowest : Addr} {od19 an19 : Option Addr} {sl19 : Array (Option Value)} {oc19 kV19 dc19 pm19 cd19 ct19 : Value} {f__law_whole : Addr} {od20 an20 : Option Addr} {sl20 : Array (Option Value)} {oc20 kV20 dc20 pm20 cd20 ct20 : Value} {f__law_fraction : Addr} {od21 an21 : Option Addr} {sl21 : Array (Option Value)} {oc21 kV21 dc21 pm21 cd21 ct21 : Value} {f__law_under : Addr} {od22 an22 : Option Addr} {sl22 : Array (Option Value)} {oc22 kV22 dc22 pm22 cd22 ct22 : Value} {f__law_heads : Addr} {od23 an23 : Option Addr} {sl23 : Array (Option Value)} {oc23 kV23 dc23 pm23 cd23 ct23 : Value} {f__law_parts : Addr} {od24 an24 : Option Addr} {sl24 : Array (Option Value)} {oc24 kV24 dc24 pm24 cd24 ct24 : Value} {f__law_idle : Addr} {od25 an25 : Option Addr} {sl25 : Array (Option Value)} {oc25 kV25 dc25 pm25 cd25 ct25 : Value} {f__law_risen : Addr} {od26 an26 : Option Addr} {sl26 : Array (Option Value)} {oc26 kV26 dc26 pm26 cd26 ct26 : Value} {f__law_out : Addr} {od27 an27 : Option Addr} {sl27 : Array (Option Value)} {oc27 kV27 dc27 pm27 cd27 ct27 : Value} {f__law_shape : Addr} {od28 an28 : Option Addr} {sl28 : Array (Option Value)} {oc28 kV28 dc28 pm28 cd28 ct28 : Value} {f_law : Addr} {od29 an29 : Option Addr} {sl29 : Array (Option Value)} {oc29 kV29 dc29 pm29 cd29 ct29 : Value}
    (z_abs : PySem.W.nsIn K mainGlobals "abs" = some none)
    (z_bool : PySem.W.nsIn K mainGlobals "bool" = some none)
    (z_enumerate : PySem.W.nsIn K mainGlobals "enumerate" = some none)
    (z_int : PySem.W.nsIn K mainGlobals "int" = some none)
    (z_isinstance : PySem.W.nsIn K mainGlobals "isinstance" = some none)
    (z_len : PySem.W.nsIn K mainGlobals "len" = some none)
    (z_list : PySem.W.nsIn K mainGlobals "list" = some none)
    (z_range : PySem.W.nsIn K mainGlobals "range" = some none)
    (z_sum : PySem.W.nsIn K mainGlobals "sum" = some none)
    (z_tuple : PySem.W.nsIn K mainGlobals "tuple" = some none)
    (z_zip : PySem.W.nsIn K mainGlobals "zip" = some none)
    (x1_NoRatio : PySem.W.nsIn K mainGlobals "NoRatio" = some (some (.ref C_NoRatio))) (x2_NoRatio : PySem.W.excIn K C_NoRatio [.type "ValueError", .type "Exception", .type "BaseException", .type "object"] "ValueError.__new__" = true) (x3_NoRatio : PySem.W.keepIn K (.ref C_NoRatio) = true) (x4_NoRatio : PySem.W.subIn K (.ref C_NoRatio) (.type "BaseException") = some true) (x5_NoRatio : PySem.W.typeIn K (.ref C_NoRatio) = some (.type "type")) (x6_NoRatio : PySem.W.isClsIn K C_NoRatio = true) (x7_NoRatio : PySem.W.subIn K (.ref C_NoRatio) (.ref C_NoRatio) = some true)
    (y1_Tide : PySem.W.nsIn K mainGlobals "Tide" = some (some (.ref C_Tide))) (y2_Tide : PySem.W.plainGet K C_Tide Str.empty = true) (y3_Tide : PySem.W.hasDictIn K C_Tide = true) (y4_Tide : PySem.W.plainOver K C_Tide = true) (y5_Tide : PySem.W.findIn K (.ref C_Tide) "__setattr__" = some (some (.builtin "object.__setattr__"))) (y6_Tide : PySem.W.makesIn K C_Tide = true) (y7_Tide : PySem.W.keepIn K (.ref C_Tide) = true)
    (w_Tide_ends : PySem.W.findIn K (.ref C_Tide) "ends" = some none)
    (w_Tide_flowing : PySem.W.findIn K (.ref C_Tide) "flowing" = some none)
    (w_Tide_height : PySem.W.findIn K (.ref C_Tide) "height" = some none)
    (w_Tide_many : PySem.W.findIn K (.ref C_Tide) "many" = some none)
    (w_Tide_moment : PySem.W.findIn K (.ref C_Tide) "moment" = some none)
    (a_divisor : PySem.W.nsIn K mainGlobals "divisor" = some (some (.ref f_divisor))) (l_divisor : K.lookup f_divisor = some ⟨oc0, od0, .func (PySem.W.fnOf "divisor" "divisor" (defArgs s_divisor) (defBody s_divisor) (defScope s_divisor) .none kV0 dc0 pm0 an0 cd0 ct0), sl0⟩) (c_divisor : PySem.W.codeIn K cd0 "divisor" = true) (k_divisor : PySem.W.keepIn K (.ref f_divisor) = true)
    (a_ratio : PySem.W.nsIn K mainGlobals "ratio" = some (some (.ref f_ratio))) (l_ratio : K.lookup f_ratio = some ⟨oc1, od1, .func (PySem.W.fnOf "ratio" "ratio" (defArgs s_ratio) (defBody s_ratio) (defScope s_ratio) .none kV1 dc1 pm1 an1 cd1 ct1), sl1⟩) (c_ratio : PySem.W.codeIn K cd1 "ratio" = true) (k_ratio : PySem.W.keepIn K (.ref f_ratio) = true)
    (a_plus : PySem.W.nsIn K mainGlobals "plus" = some (some (.ref f_plus))) (l_plus : K.lookup f_plus = some ⟨oc2, od2, .func (PySem.W.fnOf "plus" "plus" (defArgs s_plus) (defBody s_plus) (defScope s_plus) .none kV2 dc2 pm2 an2 cd2 ct2), sl2⟩) (c_plus : PySem.W.codeIn K cd2 "plus" = true) (k_plus : PySem.W.keepIn K (.ref f_plus) = true)
    (a_minus : PySem.W.nsIn K mainGlobals "minus" = some (some (.ref f_minus))) (l_minus : K.lookup f_minus = some ⟨oc3, od3, .func (PySem.W.fnOf "minus" "minus" (defArgs s_minus) (defBody s_minus) (defScope s_minus) .none kV3 dc3 pm3 an3 cd3 ct3), sl3⟩) (c_minus : PySem.W.codeIn K cd3 "minus" = true) (k_minus : PySem.W.keepIn K (.ref f_minus) = true)
    (a_times : PySem.W.nsIn K mainGlobals "times" = some (some (.ref f_times))) (l_times : K.lookup f_times = some ⟨oc4, od4, .func (PySem.W.fnOf "times" "times" (defArgs s_times) (defBody s_times) (defScope s_times) .none kV4 dc4 pm4 an4 cd4 ct4), sl4⟩) (c_times : PySem.W.codeIn K cd4 "times" = true) (k_times : PySem.W.keepIn K (.ref f_times) = true)
    (a_over : PySem.W.nsIn K mainGlobals "over" = some (some (.ref f_over))) (l_over : K.lookup f_over = some ⟨oc5, od5, .func (PySem.W.fnOf "over" "over" (defArgs s_over) (defBody s_over) (defScope s_over) .none kV5 dc5 pm5 an5 cd5 ct5), sl5⟩) (c_over : PySem.W.codeIn K cd5 "over" = true) (k_over : PySem.W.keepIn K (.ref f_over) = true)
    (a_under : PySem.W.nsIn K mainGlobals "under" = some (some (.ref f_under))) (l_under : K.lookup f_under = some ⟨oc6, od6, .func (PySem.W.fnOf "under" "under" (defArgs s_under) (defBody s_under) (defScope s_under) .none kV6 dc6 pm6 an6 cd6 ct6), sl6⟩) (c_under : PySem.W.codeIn K cd6 "under" = true) (k_under : PySem.W.keepIn K (.ref f_under) = true)
    (a_greater : PySem.W.nsIn K mainGlobals "greater" = some (some (.ref f_greater))) (l_greater : K.lookup f_greater = some ⟨oc7, od7, .func (PySem.W.fnOf "greater" "greater" (defArgs s_greater) (defBody s_greater) (defScope s_greater) .none kV7 dc7 pm7 an7 cd7 ct7), sl7⟩) (c_greater : PySem.W.codeIn K cd7 "greater" = true) (k_greater : PySem.W.keepIn K (.ref f_greater) = true)
    (a_Tide___init__ : PySem.W.findIn K (.ref C_Tide) "__init__" = some (some (.ref f_Tide___init__))) (i_Tide___init__ : PySem.W.isFn K (.ref f_Tide___init__) = true) (l_Tide___init__ : K.lookup f_Tide___init__ = some ⟨oc8, od8, .func (PySem.W.fnOf "__init__" "Tide.__init__" (defArgs s_Tide___init__) (defBody s_Tide___init__) (defScope s_Tide___init__) .none kV8 dc8 pm8 an8 cd8 ct8), sl8⟩) (c_Tide___init__ : PySem.W.codeIn K cd8 "Tide.__init__" = true) (k_Tide___init__ : PySem.W.keepIn K (.ref f_Tide___init__) = true)
    (a_Tide_heads : PySem.W.findIn K (.ref C_Tide) "heads" = some (some (.ref f_Tide_heads))) (i_Tide_heads : PySem.W.isFn K (.ref f_Tide_heads) = true) (l_Tide_heads : K.lookup f_Tide_heads = some ⟨oc9, od9, .func (PySem.W.fnOf "heads" "Tide.heads" (defArgs s_Tide_heads) (defBody s_Tide_heads) (defScope s_Tide_heads) .none kV9 dc9 pm9 an9 cd9 ct9), sl9⟩) (c_Tide_heads : PySem.W.codeIn K cd9 "Tide.heads" = true) (k_Tide_heads : PySem.W.keepIn K (.ref f_Tide_heads) = true)
    (a_Tide_goes : PySem.W.findIn K (.ref C_Tide) "goes" = some (some (.ref f_Tide_goes))) (i_Tide_goes : PySem.W.isFn K (.ref f_Tide_goes) = true) (l_Tide_goes : K.lookup f_Tide_goes = some ⟨oc10, od10, .func (PySem.W.fnOf "goes" "Tide.goes" (defArgs s_Tide_goes) (defBody s_Tide_goes) (defScope s_Tide_goes) .none kV10 dc10 pm10 an10 cd10 ct10), sl10⟩) (c_Tide_goes : PySem.W.codeIn K cd10 "Tide.goes" = true) (k_Tide_goes : PySem.W.keepIn K (.ref f_Tide_goes) = true)
    (a_Tide_rises : PySem.W.findIn K (.ref C_Tide) "rises" = some (some (.ref f_Tide_rises))) (i_Tide_rises : PySem.W.isFn K (.ref f_Tide_rises) = true) (l_Tide_rises : K.lookup f_Tide_rises = some ⟨oc11, od11, .func (PySem.W.fnOf "rises" "Tide.rises" (defArgs s_Tide_rises) (defBody s_Tide_rises) (defScope s_Tide_rises) .none kV11 dc11 pm11 an11 cd11 ct11), sl11⟩) (c_Tide_rises : PySem.W.codeIn K cd11 "Tide.rises" = true) (k_Tide_rises : PySem.W.keepIn K (.ref f_Tide_rises) = true)
    (a_Tide_drains : PySem.W.findIn K (.ref C_Tide) "drains" = some (some (.ref f_Tide_drains))) (i_Tide_drains : PySem.W.isFn K (.ref f_Tide_drains) = true) (l_Tide_drains : K.lookup f_Tide_drains = some ⟨oc12, od12, .func (PySem.W.fnOf "drains" "Tide.drains" (defArgs s_Tide_drains) (defBody s_Tide_drains) (defScope s_Tide_drains) .none kV12 dc12 pm12 an12 cd12 ct12), sl12⟩) (c_Tide_drains : PySem.W.codeIn K cd12 "Tide.drains" = true) (k_Tide_drains : PySem.W.keepIn K (.ref f_Tide_drains) = true)
    (a_Tide_come : PySem.W.findIn K (.ref C_Tide) "come" = some (some (.ref f_Tide_come))) (i_Tide_come : PySem.W.isFn K (.ref f_Tide_come) = true) (l_Tide_come : K.lookup f_Tide_come = some ⟨oc13, od13, .func (PySem.W.fnOf "come" "Tide.come" (defArgs s_Tide_come) (defBody s_Tide_come) (defScope s_Tide_come) .none kV13 dc13 pm13 an13 cd13 ct13), sl13⟩) (c_Tide_come : PySem.W.codeIn K cd13 "Tide.come" = true) (k_Tide_come : PySem.W.keepIn K (.ref f_Tide_come) = true)
    (a_flow : PySem.W.nsIn K mainGlobals "flow" = some (some (.ref f_flow))) (l_flow : K.lookup f_flow = some ⟨oc14, od14, .func (PySem.W.fnOf "flow" "flow" (defArgs s_flow) (defBody s_flow) (defScope s_flow) .none kV14 dc14 pm14 an14 cd14 ct14), sl14⟩) (c_flow : PySem.W.codeIn K cd14 "flow" = true) (k_flow : PySem.W.keepIn K (.ref f_flow) = true)
    (a__law_cell_at : PySem.W.nsIn K mainGlobals "_law_cell_at" = some (some (.ref f__law_cell_at))) (l__law_cell_at : K.lookup f__law_cell_at = some ⟨oc15, od15, .func (PySem.W.fnOf "_law_cell_at" "_law_cell_at" (defArgs s__law_cell_at) (defBody s__law_cell_at) (defScope s__law_cell_at) .none kV15 dc15 pm15 an15 cd15 ct15), sl15⟩) (c__law_cell_at : PySem.W.codeIn K cd15 "_law_cell_at" = true) (k__law_cell_at : PySem.W.keepIn K (.ref f__law_cell_at) = true)
    (a__law_mix : PySem.W.nsIn K mainGlobals "_law_mix" = some (some (.ref f__law_mix))) (l__law_mix : K.lookup f__law_mix = some ⟨oc16, od16, .func (PySem.W.fnOf "_law_mix" "_law_mix" (defArgs s__law_mix) (defBody s__law_mix) (defScope s__law_mix) .none kV16 dc16 pm16 an16 cd16 ct16), sl16⟩) (c__law_mix : PySem.W.codeIn K cd16 "_law_mix" = true) (k__law_mix : PySem.W.keepIn K (.ref f__law_mix) = true)
    (a__law_row : PySem.W.nsIn K mainGlobals "_law_row" = some (some (.ref f__law_row))) (l__law_row : K.lookup f__law_row = some ⟨oc17, od17, .func (PySem.W.fnOf "_law_row" "_law_row" (defArgs s__law_row) (defBody s__law_row) (defScope s__law_row) .none kV17 dc17 pm17 an17 cd17 ct17), sl17⟩) (c__law_row : PySem.W.codeIn K cd17 "_law_row" = true) (k__law_row : PySem.W.keepIn K (.ref f__law_row) = true)
    (a__law_divisor : PySem.W.nsIn K mainGlobals "_law_divisor" = some (some (.ref f__law_divisor))) (l__law_divisor : K.lookup f__law_divisor = some ⟨oc18, od18, .func (PySem.W.fnOf "_law_divisor" "_law_divisor" (defArgs s__law_divisor) (defBody s__law_divisor) (defScope s__law_divisor) .none kV18 dc18 pm18 an18 cd18 ct18), sl18⟩) (c__law_divisor : PySem.W.codeIn K cd18 "_law_divisor" = true) (k__law_divisor : PySem.W.keepIn K (.ref f__law_divisor) = true)
    (a__law_lowest : PySem.W.nsIn K mainGlobals "_law_lowest" = some (some (.ref f__law_lowest))) (l__law_lowest : K.lookup f__law_lowest = some ⟨oc19, od19, .func (PySem.W.fnOf "_law_lowest" "_law_lowest" (defArgs s__law_lowest) (defBody s__law_lowest) (defScope s__law_lowest) .none kV19 dc19 pm19 an19 cd19 ct19), sl19⟩) (c__law_lowest : PySem.W.codeIn K cd19 "_law_lowest" = true) (k__law_lowest : PySem.W.keepIn K (.ref f__law_lowest) = true)
    (a__law_whole : PySem.W.nsIn K mainGlobals "_law_whole" = some (some (.ref f__law_whole))) (l__law_whole : K.lookup f__law_whole = some ⟨oc20, od20, .func (PySem.W.fnOf "_law_whole" "_law_whole" (defArgs s__law_whole) (defBody s__law_whole) (defScope s__law_whole) .none kV20 dc20 pm20 an20 cd20 ct20), sl20⟩) (c__law_whole : PySem.W.codeIn K cd20 "_law_whole" = true) (k__law_whole : PySem.W.keepIn K (.ref f__law_whole) = true)
    (a__law_fraction : PySem.W.nsIn K mainGlobals "_law_fraction" = some (some (.ref f__law_fraction))) (l__law_fraction : K.lookup f__law_fraction = some ⟨oc21, od21, .func (PySem.W.fnOf "_law_fraction" "_law_fraction" (defArgs s__law_fraction) (defBody s__law_fraction) (defScope s__law_fraction) .none kV21 dc21 pm21 an21 cd21 ct21), sl21⟩) (c__law_fraction : PySem.W.codeIn K cd21 "_law_fraction" = true) (k__law_fraction : PySem.W.keepIn K (.ref f__law_fraction) = true)
    (a__law_under : PySem.W.nsIn K mainGlobals "_law_under" = some (some (.ref f__law_under))) (l__law_under : K.lookup f__law_under = some ⟨oc22, od22, .func (PySem.W.fnOf "_law_under" "_law_under" (defArgs s__law_under) (defBody s__law_under) (defScope s__law_under) .none kV22 dc22 pm22 an22 cd22 ct22), sl22⟩) (c__law_under : PySem.W.codeIn K cd22 "_law_under" = true) (k__law_under : PySem.W.keepIn K (.ref f__law_under) = true)
    (a__law_heads : PySem.W.nsIn K mainGlobals "_law_heads" = some (some (.ref f__law_heads))) (l__law_heads : K.lookup f__law_heads = some ⟨oc23, od23, .func (PySem.W.fnOf "_law_heads" "_law_heads" (defArgs s__law_heads) (defBody s__law_heads) (defScope s__law_heads) .none kV23 dc23 pm23 an23 cd23 ct23), sl23⟩) (c__law_heads : PySem.W.codeIn K cd23 "_law_heads" = true) (k__law_heads : PySem.W.keepIn K (.ref f__law_heads) = true)
    (a__law_parts : PySem.W.nsIn K mainGlobals "_law_parts" = some (some (.ref f__law_parts))) (l__law_parts : K.lookup f__law_parts = some ⟨oc24, od24, .func (PySem.W.fnOf "_law_parts" "_law_parts" (defArgs s__law_parts) (defBody s__law_parts) (defScope s__law_parts) .none kV24 dc24 pm24 an24 cd24 ct24), sl24⟩) (c__law_parts : PySem.W.codeIn K cd24 "_law_parts" = true) (k__law_parts : PySem.W.keepIn K (.ref f__law_parts) = true)
    (a__law_idle : PySem.W.nsIn K mainGlobals "_law_idle" = some (some (.ref f__law_idle))) (l__law_idle : K.lookup f__law_idle = some ⟨oc25, od25, .func (PySem.W.fnOf "_law_idle" "_law_idle" (defArgs s__law_idle) (defBody s__law_idle) (defScope s__law_idle) .none kV25 dc25 pm25 an25 cd25 ct25), sl25⟩) (c__law_idle : PySem.W.codeIn K cd25 "_law_idle" = true) (k__law_idle : PySem.W.keepIn K (.ref f__law_idle) = true)
    (a__law_risen : PySem.W.nsIn K mainGlobals "_law_risen" = some (some (.ref f__law_risen))) (l__law_risen : K.lookup f__law_risen = some ⟨oc26, od26, .func (PySem.W.fnOf "_law_risen" "_law_risen" (defArgs s__law_risen) (defBody s__law_risen) (defScope s__law_risen) .none kV26 dc26 pm26 an26 cd26 ct26), sl26⟩) (c__law_risen : PySem.W.codeIn K cd26 "_law_risen" = true) (k__law_risen : PySem.W.keepIn K (.ref f__law_risen) = true)
    (a__law_out : PySem.W.nsIn K mainGlobals "_law_out" = some (some (.ref f__law_out))) (l__law_out : K.lookup f__law_out = some ⟨oc27, od27, .func (PySem.W.fnOf "_law_out" "_law_out" (defArgs s__law_out) (defBody s__law_out) (defScope s__law_out) .none kV27 dc27 pm27 an27 cd27 ct27), sl27⟩) (c__law_out : PySem.W.codeIn K cd27 "_law_out" = true) (k__law_out : PySem.W.keepIn K (.ref f__law_out) = true)
    (a__law_shape : PySem.W.nsIn K mainGlobals "_law_shape" = some (some (.ref f__law_shape))) (l__law_shape : K.lookup f__law_shape = some ⟨oc28, od28, .func (PySem.W.fnOf "_law_shape" "_law_shape" (defArgs s__law_shape) (defBody s__law_shape) (defScope s__law_shape) .none kV28 dc28 pm28 an28 cd28 ct28), sl28⟩) (c__law_shape : PySem.W.codeIn K cd28 "_law_shape" = true) (k__law_shape : PySem.W.keepIn K (.ref f__law_shape) = true)
    (a_law : PySem.W.nsIn K mainGlobals "law" = some (some (.ref f_law))) (l_law : K.lookup f_law = some ⟨oc29, od29, .func (PySem.W.fnOf "law" "law" (defArgs s_law) (defBody s_law) (defScope s_law) .none kV29 dc29 pm29 an29 cd29 ct29), sl29⟩) (c_law : PySem.W.codeIn K cd29 "law" = true) (k_law : PySem.W.keepIn K (.ref f_law) = true) :
    ∃ fd : FuncData, (∀ (s : Shared) (v : Value), BindsTo s fd ⟨[v], []⟩ [("_law_script", v)]) ∧ ∀ base : Heap, K.In base → base.Ns mainGlobals mg → FnOk l.prog w K mg base (L2N.CX l.prog w) 8 fa fd ["_law_script"] (LawSp K) := by
  have e := hfa.symm.trans (PySem.W.mg_of X G0 a_law)
  cases e
  have T : G K mg (fun x => if x = ("NoRatio" : Str) then C_NoRatio else if x = ("Tide" : Str) then C_Tide else 0) := { b_abs := PySem.W.mg_none_of X G0 z_abs, b_bool := PySem.W.mg_none_of X G0 z_bool, b_enumerate := PySem.W.mg_none_of X G0 z_enumerate, b_int := PySem.W.mg_none_of X G0 z_int, b_isinstance := PySem.W.mg_none_of X G0 z_isinstance, b_len := PySem.W.mg_none_of X G0 z_len, b_list := PySem.W.mg_none_of X G0 z_list, b_range := PySem.W.mg_none_of X G0 z_range, b_sum := PySem.W.mg_none_of X G0 z_sum, b_tuple := PySem.W.mg_none_of X G0 z_tuple, b_zip := PySem.W.mg_none_of X G0 z_zip, x_NoRatio := ⟨PySem.W.mg_of X G0 x1_NoRatio, x2_NoRatio, x3_NoRatio, x4_NoRatio, x5_NoRatio, x6_NoRatio, x7_NoRatio⟩, c_Tide := ⟨PySem.W.mg_of X G0 y1_Tide, ⟨y2_Tide, y3_Tide, y4_Tide, y5_Tide⟩⟩, n_Tide_ends := w_Tide_ends, n_Tide_flowing := w_Tide_flowing, n_Tide_height := w_Tide_height, n_Tide_many := w_Tide_many, n_Tide_moment := w_Tide_moment, d_divisor := tx_mk X G0 a_divisor l_divisor c_divisor k_divisor (fun _ _ _ _ _ _ us hl => match us, hl with | [_, _], _ => rfl), d_ratio := tx_mk X G0 a_ratio l_ratio c_ratio k_ratio (fun _ _ _ _ _ _ us hl => match us, hl with | [_, _], _ => rfl), d_plus := tx_mk X G0 a_plus l_plus c_plus k_plus (fun _ _ _ _ _ _ us hl => match us, hl with | [_, _], _ => rfl), d_minus := tx_mk X G0 a_minus l_minus c_minus k_minus (fun _ _ _ _ _ _ us hl => match us, hl with | [_, _], _ => rfl), d_times := tx_mk X G0 a_times l_times c_times k_times (fun _ _ _ _ _ _ us hl => match us, hl with | [_, _], _ => rfl), d_over := tx_mk X G0 a_over l_over c_over k_over (fun _ _ _ _ _ _ us hl => match us, hl with | [_, _], _ => rfl), d_under := tx_mk X G0 a_under l_under c_under k_under (fun _ _ _ _ _ _ us hl => match us, hl with | [_, _], _ => rfl), d_greater := tx_mk X G0 a_greater l_greater c_greater k_greater (fun _ _ _ _ _ _ us hl => match us, hl with | [_, _], _ => rfl), d_Tide___init__ := ti_mk a_Tide___init__ i_Tide___init__ l_Tide___init__ c_Tide___init__ k_Tide___init__ y6_Tide y7_Tide (fun _ _ _ _ _ _ us hl => match us, hl with | [_], _ => rfl), d_Tide_heads := tm_mk a_Tide_heads i_Tide_heads l_Tide_heads c_Tide_heads k_Tide_heads (fun _ _ _ _ _ _ us hl => match us, hl with | [_], _ => rfl), d_Tide_goes := tm_mk a_Tide_goes i_Tide_goes l_Tide_goes c_Tide_goes k_Tide_goes (fun _ _ _ _ _ _ us hl => match us, hl with | [_, _], _ => rfl), d_Tide_rises := tm_mk a_Tide_rises i_Tide_rises l_Tide_rises c_Tide_rises k_Tide_rises (fun _ _ _ _ _ _ us hl => match us, hl with | [_, _], _ => rfl), d_Tide_drains := tm_mk a_Tide_drains i_Tide_drains l_Tide_drains c_Tide_drains k_Tide_drains (fun _ _ _ _ _ _ us hl => match us, hl with | [_], _ => rfl), d_Tide_come := tm_mk a_Tide_come i_Tide_come l_Tide_come c_Tide_come k_Tide_come (fun _ _ _ _ _ _ us hl => match us, hl with | [_, _], _ => rfl), d_flow := tx_mk X G0 a_flow l_flow c_flow k_flow (fun _ _ _ _ _ _ us hl => match us, hl with | [_], _ => rfl), d__law_cell_at := tx_mk X G0 a__law_cell_at l__law_cell_at c__law_cell_at k__law_cell_at (fun _ _ _ _ _ _ us hl => match us, hl with | [_, _], _ => rfl), d__law_mix := tx_mk X G0 a__law_mix l__law_mix c__law_mix k__law_mix (fun _ _ _ _ _ _ us hl => match us, hl with | [_, _], _ => rfl), d__law_row := tx_mk X G0 a__law_row l__law_row c__law_row k__law_row (fun _ _ _ _ _ _ us hl => match us, hl with | [_], _ => rfl), d__law_divisor := tx_mk X G0 a__law_divisor l__law_divisor c__law_divisor k__law_divisor (fun _ _ _ _ _ _ us hl => match us, hl with | [_, _], _ => rfl), d__law_lowest := tx_mk X G0 a__law_lowest l__law_lowest c__law_lowest k__law_lowest (fun _ _ _ _ _ _ us hl => match us, hl with | [_, _], _ => rfl), d__law_whole := tx_mk X G0 a__law_whole l__law_whole c__law_whole k__law_whole (fun _ _ _ _ _ _ us hl => match us, hl with | [_], _ => rfl), d__law_fraction := tx_mk X G0 a__law_fraction l__law_fraction c__law_fraction k__law_fraction (fun _ _ _ _ _ _ us hl => match us, hl with | [_], _ => rfl), d__law_under := tx_mk X G0 a__law_under l__law_under c__law_under k__law_under (fun _ _ _ _ _ _ us hl => match us, hl with | [_, _], _ => rfl), d__law_heads := tx_mk X G0 a__law_heads l__law_heads c__law_heads k__law_heads (fun _ _ _ _ _ _ us hl => match us, hl with | [_, _, _], _ => rfl), d__law_parts := tx_mk X G0 a__law_parts l__law_parts c__law_parts k__law_parts (fun _ _ _ _ _ _ us hl => match us, hl with | [_, _, _, _], _ => rfl), d__law_idle := tx_mk X G0 a__law_idle l__law_idle c__law_idle k__law_idle (fun _ _ _ _ _ _ us hl => match us, hl with | [_, _, _], _ => rfl), d__law_risen := tx_mk X G0 a__law_risen l__law_risen c__law_risen k__law_risen (fun _ _ _ _ _ _ us hl => match us, hl with | [_, _, _, _], _ => rfl), d__law_out := tx_mk X G0 a__law_out l__law_out c__law_out k__law_out (fun _ _ _ _ _ _ us hl => match us, hl with | [_, _, _], _ => rfl), d__law_shape := tx_mk X G0 a__law_shape l__law_shape c__law_shape k__law_shape (fun _ _ _ _ _ _ us hl => match us, hl with | [_], _ => rfl), d_law := tx_mk X G0 a_law l_law c_law k_law (fun _ _ _ _ _ _ us hl => match us, hl with | [_], _ => rfl) }
  refine ⟨PySem.W.fnOf "law" "law" (defArgs s_law) (defBody s_law) (defScope s_law) .none kV29 dc29 pm29 an29 cd29 ct29, fun s v => .of_eq rfl, fun base _ _ => ?_⟩
  have D_divisor := ok_divisor (P := l.prog) (w := w) (base := base) T 
  have D_ratio := ok_ratio (P := l.prog) (w := w) (base := base) T D_divisor
  have D_plus := ok_plus (P := l.prog) (w := w) (base := base) T D_ratio
  have D_minus := ok_minus (P := l.prog) (w := w) (base := base) T D_ratio
  have D_times := ok_times (P := l.prog) (w := w) (base := base) T D_ratio
  have D_over := ok_over (P := l.prog) (w := w) (base := base) T D_ratio
  have D_under := ok_under (P := l.prog) (w := w) (base := base) T 
  have D_greater := ok_greater (P := l.prog) (w := w) (base := base) T D_under
  have D_Tide___init__ := ok_Tide___init__ (P := l.prog) (w := w) (base := base) T 
  have D_Tide_heads := ok_Tide_heads (P := l.prog) (w := w) (base := base) T D_under
  have D_Tide_goes := ok_Tide_goes (P := l.prog) (w := w) (base := base) T D_Tide_heads D_under D_minus D_times D_plus D_over D_ratio
  have D_Tide_rises := ok_Tide_rises (P := l.prog) (w := w) (base := base) T D_under D_Tide_goes
  have D_Tide_drains := ok_Tide_drains (P := l.prog) (w := w) (base := base) T D_Tide_heads D_Tide_goes
  have D_Tide_come := ok_Tide_come (P := l.prog) (w := w) (base := base) T D_Tide_rises D_greater D_ratio D_plus D_under
  have D_flow := ok_flow (P := l.prog) (w := w) (base := base) T D_Tide___init__ D_Tide_rises D_Tide_come D_Tide_drains
  have D__law_cell_at := ok__law_cell_at (P := l.prog) (w := w) (base := base) T 
  have D__law_mix := ok__law_mix (P := l.prog) (w := w) (base := base) T 
  have D__law_row := ok__law_row (P := l.prog) (w := w) (base := base) T D__law_cell_at D__law_mix
  have D__law_divisor := ok__law_divisor (P := l.prog) (w := w) (base := base) T 
  have D__law_lowest := ok__law_lowest (P := l.prog) (w := w) (base := base) T D__law_divisor
  have D__law_whole := ok__law_whole (P := l.prog) (w := w) (base := base) T 
  have D__law_fraction := ok__law_fraction (P := l.prog) (w := w) (base := base) T D__law_whole D__law_divisor
  have D__law_under := ok__law_under (P := l.prog) (w := w) (base := base) T 
  have D__law_heads := ok__law_heads (P := l.prog) (w := w) (base := base) T 
  have D__law_parts := ok__law_parts (P := l.prog) (w := w) (base := base) T D__law_whole D__law_fraction D__law_lowest
  have D__law_idle := ok__law_idle (P := l.prog) (w := w) (base := base) T 
  have D__law_risen := ok__law_risen (P := l.prog) (w := w) (base := base) T D__law_lowest
  have D__law_out := ok__law_out (P := l.prog) (w := w) (base := base) T 
  have D__law_shape := ok__law_shape (P := l.prog) (w := w) (base := base) T D__law_fraction D__law_under
  have D_law := ok_law (P := l.prog) (w := w) (base := base) T D__law_row D_flow D__law_shape D__law_under D__law_idle D__law_heads D__law_parts D__law_risen D__law_out
  exact law_end D_law (PySem.W.mg_of X G0 a_law) l_law
theorem walk {l : PySem.W.OpenLaw} {q : Program} {loose : List Str} {XP : (Str → Option Value) → Heap → Prop} {YP : World → Heap → Prop} {d : DefRec} {K : Params → PySem.W.Frag} (hn : l.most = some 63) (hdf : d.params.defaults = [])
    (hY : ∀ (w : World) (h : Heap), YP w h → (K w.params).In h)
    (F : ∀ (w : World) (mg : Str → Option Value) (fa : Addr) (h : Heap), (K w.params).In h → h.Ns mainGlobals mg → mg d.name = some (.ref fa) →
      ∃ fd : FuncData, (∀ (s : Shared) (u : Value), BindsTo s fd ⟨[u], []⟩ [("_law_script", u)]) ∧ ∀ base : Heap, (K w.params).In base → base.Ns mainGlobals mg → FnOk l.prog w (K w.params) mg base (L2N.CX l.prog w) 8 fa fd ["_law_script"] (LawSp (K w.params))) :
    PySem.W.WalkO q loose XP YP l.row.toRowW d [] (fun f vs => PySem.call f vs) :=
  L2.walk_of (n := 63) (k := 8) (x := "_law_script") (CX := fun w => L2N.CX l.prog w) (sp := fun w => LawSp (K w.params)) hn (by decide) hdf ⟨rfl, by decide, by decide⟩ hY F (fun _ H a ns hl _ hS => law_start hl hS) fun _ _ _ _ _ z => by
    obtain ⟨_, _, _, _, _, _, _, _, _, _, _, _, z⟩ := z
    exact z.elim
end Y
open PySem PySem.W PyProof.Rows
set_option maxRecDepth 100000 in
set_option maxHeartbeats 0 in
theorem PySem.Challenge.cw_sharewheel_k23_whole_flow_walked_holds : PySem.Challenge.rw_sharewheel_k23_whole_flow_walked.Holds := by
  w_on; o_law; k_head; (case hw => w_witness2)
  k_fill
  refine Y.walk (l := PySem.Challenge.rw_sharewheel_k23_whole_flow_walked) rfl rfl (fun w h Y => PySem.W.kIn_of Y) ?F
  case F =>
    intro w mg fa h KX G hmg
    refine' Y.all_mk KX G hmg ?z_abs ?z_bool ?z_enumerate ?z_int ?z_isinstance ?z_len ?z_list ?z_range ?z_sum ?z_tuple ?z_zip ?x1_NoRatio ?x2_NoRatio ?x3_NoRatio ?x4_NoRatio ?x5_NoRatio ?x6_NoRatio ?x7_NoRatio ?y1_Tide ?y2_Tide ?y3_Tide ?y4_Tide ?y5_Tide ?y6_Tide ?y7_Tide ?w_Tide_ends ?w_Tide_flowing ?w_Tide_height ?w_Tide_many ?w_Tide_moment ?a_divisor ?l_divisor ?c_divisor ?k_divisor ?a_ratio ?l_ratio ?c_ratio ?k_ratio ?a_plus ?l_plus ?c_plus ?k_plus ?a_minus ?l_minus ?c_minus ?k_minus ?a_times ?l_times ?c_times ?k_times ?a_over ?l_over ?c_over ?k_over ?a_under ?l_under ?c_under ?k_under ?a_greater ?l_greater ?c_greater ?k_greater ?a_Tide___init__ ?i_Tide___init__ ?l_Tide___init__ ?c_Tide___init__ ?k_Tide___init__ ?a_Tide_heads ?i_Tide_heads ?l_Tide_heads ?c_Tide_heads ?k_Tide_heads ?a_Tide_goes ?i_Tide_goes ?l_Tide_goes ?c_Tide_goes ?k_Tide_goes ?a_Tide_rises ?i_Tide_rises ?l_Tide_rises ?c_Tide_rises ?k_Tide_rises ?a_Tide_drains ?i_Tide_drains ?l_Tide_drains ?c_Tide_drains ?k_Tide_drains ?a_Tide_come ?i_Tide_come ?l_Tide_come ?c_Tide_come ?k_Tide_come ?a_flow ?l_flow ?c_flow ?k_flow ?a__law_cell_at ?l__law_cell_at ?c__law_cell_at ?k__law_cell_at ?a__law_mix ?l__law_mix ?c__law_mix ?k__law_mix ?a__law_row ?l__law_row ?c__law_row ?k__law_row ?a__law_divisor ?l__law_divisor ?c__law_divisor ?k__law_divisor ?a__law_lowest ?l__law_lowest ?c__law_lowest ?k__law_lowest ?a__law_whole ?l__law_whole ?c__law_whole ?k__law_whole ?a__law_fraction ?l__law_fraction ?c__law_fraction ?k__law_fraction ?a__law_under ?l__law_under ?c__law_under ?k__law_under ?a__law_heads ?l__law_heads ?c__law_heads ?k__law_heads ?a__law_parts ?l__law_parts ?c__law_parts ?k__law_parts ?a__law_idle ?l__law_idle ?c__law_idle ?k__law_idle ?a__law_risen ?l__law_risen ?c__law_risen ?k__law_risen ?a__law_out ?l__law_out ?c__law_out ?k__law_out ?a__law_shape ?l__law_shape ?c__law_shape ?k__law_shape ?a_law ?l_law ?c_law ?k_law
    (case z_abs => k_is)
    (case z_bool => k_is)
    (case z_enumerate => k_is)
    (case z_int => k_is)
    (case z_isinstance => k_is)
    (case z_len => k_is)
    (case z_list => k_is)
    (case z_range => k_is)
    (case z_sum => k_is)
    (case z_tuple => k_is)
    (case z_zip => k_is)
    (case x1_NoRatio => k_is)
    (case x2_NoRatio => k_exc)
    (case x3_NoRatio => k_is)
    (case x4_NoRatio => k_is)
    (case x5_NoRatio => k_is)
    (case x6_NoRatio => k_is)
    (case x7_NoRatio => first | rfl | k_is)
    (case y1_Tide => k_is)
    (case y2_Tide => k_is)
    (case y3_Tide => k_is)
    (case y4_Tide => k_is)
    (case y5_Tide => k_is)
    (case y6_Tide => k_is)
    (case y7_Tide => k_is)
    (case w_Tide_ends => k_is)
    (case w_Tide_flowing => k_is)
    (case w_Tide_height => k_is)
    (case w_Tide_many => k_is)
    (case w_Tide_moment => k_is)
    (case a_divisor => k_is)
    (case l_divisor => k_is)
    (case c_divisor => k_is)
    (case k_divisor => k_is)
    (case a_ratio => k_is)
    (case l_ratio => k_is)
    (case c_ratio => k_is)
    (case k_ratio => k_is)
    (case a_plus => k_is)
    (case l_plus => k_is)
    (case c_plus => k_is)
    (case k_plus => k_is)
    (case a_minus => k_is)
    (case l_minus => k_is)
    (case c_minus => k_is)
    (case k_minus => k_is)
    (case a_times => k_is)
    (case l_times => k_is)
    (case c_times => k_is)
    (case k_times => k_is)
    (case a_over => k_is)
    (case l_over => k_is)
    (case c_over => k_is)
    (case k_over => k_is)
    (case a_under => k_is)
    (case l_under => k_is)
    (case c_under => k_is)
    (case k_under => k_is)
    (case a_greater => k_is)
    (case l_greater => k_is)
    (case c_greater => k_is)
    (case k_greater => k_is)
    (case a_Tide___init__ => k_is)
    (case i_Tide___init__ => k_is)
    (case l_Tide___init__ => k_is)
    (case c_Tide___init__ => k_is)
    (case k_Tide___init__ => k_is)
    (case a_Tide_heads => k_is)
    (case i_Tide_heads => k_is)
    (case l_Tide_heads => k_is)
    (case c_Tide_heads => k_is)
    (case k_Tide_heads => k_is)
    (case a_Tide_goes => k_is)
    (case i_Tide_goes => k_is)
    (case l_Tide_goes => k_is)
    (case c_Tide_goes => k_is)
    (case k_Tide_goes => k_is)
    (case a_Tide_rises => k_is)
    (case i_Tide_rises => k_is)
    (case l_Tide_rises => k_is)
    (case c_Tide_rises => k_is)
    (case k_Tide_rises => k_is)
    (case a_Tide_drains => k_is)
    (case i_Tide_drains => k_is)
    (case l_Tide_drains => k_is)
    (case c_Tide_drains => k_is)
    (case k_Tide_drains => k_is)
    (case a_Tide_come => k_is)
    (case i_Tide_come => k_is)
    (case l_Tide_come => k_is)
    (case c_Tide_come => k_is)
    (case k_Tide_come => k_is)
    (case a_flow => k_is)
    (case l_flow => k_is)
    (case c_flow => k_is)
    (case k_flow => k_is)
    (case a__law_cell_at => k_is)
    (case l__law_cell_at => k_is)
    (case c__law_cell_at => k_is)
    (case k__law_cell_at => k_is)
    (case a__law_mix => k_is)
    (case l__law_mix => k_is)
    (case c__law_mix => k_is)
    (case k__law_mix => k_is)
    (case a__law_row => k_is)
    (case l__law_row => k_is)
    (case c__law_row => k_is)
    (case k__law_row => k_is)
    (case a__law_divisor => k_is)
    (case l__law_divisor => k_is)
    (case c__law_divisor => k_is)
    (case k__law_divisor => k_is)
    (case a__law_lowest => k_is)
    (case l__law_lowest => k_is)
    (case c__law_lowest => k_is)
    (case k__law_lowest => k_is)
    (case a__law_whole => k_is)
    (case l__law_whole => k_is)
    (case c__law_whole => k_is)
    (case k__law_whole => k_is)
    (case a__law_fraction => k_is)
    (case l__law_fraction => k_is)
    (case c__law_fraction => k_is)
    (case k__law_fraction => k_is)
    (case a__law_under => k_is)
    (case l__law_under => k_is)
    (case c__law_under => k_is)
    (case k__law_under => k_is)
    (case a__law_heads => k_is)
    (case l__law_heads => k_is)
    (case c__law_heads => k_is)
    (case k__law_heads => k_is)
    (case a__law_parts => k_is)
    (case l__law_parts => k_is)
    (case c__law_parts => k_is)
    (case k__law_parts => k_is)
    (case a__law_idle => k_is)
    (case l__law_idle => k_is)
    (case c__law_idle => k_is)
    (case k__law_idle => k_is)
    (case a__law_risen => k_is)
    (case l__law_risen => k_is)
    (case c__law_risen => k_is)
    (case k__law_risen => k_is)
    (case a__law_out => k_is)
    (case l__law_out => k_is)
    (case c__law_out => k_is)
    (case k__law_out => k_is)
    (case a__law_shape => k_is)
    (case l__law_shape => k_is)
    (case c__law_shape => k_is)
    (case k__law_shape => k_is)
    (case a_law => k_is)
    (case l_law => k_is)
    (case c_law => k_is)
    (case k_law => k_is)
#print axioms PySem.Challenge.cw_sharewheel_k23_whole_flow_walked_holds


